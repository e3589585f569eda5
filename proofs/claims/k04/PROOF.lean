import PyProof.Rows.All
import HandS.ForMost
import HandS.ForExc
import HandS.Flow
import HandS.Style
import HandS.Zip
import HandS.Rev
import HandS.Conv
import HandS.DictTup
import HandS.SetKeys
import HandS.SetFor
import HandS.TupSets
import HandS.TupAny
import HandS.IsInst
import HandS.FStr
import HandS.Codes
import HandS.Deep
import HandS.SortKw
import HandS.Strs
import HandS.Wide
import HandS.StrMore
import HandS.Small
import KE.SortData
import HandS.ExcInit
import HandS.ExcField
import HandS.ExcIs
import HandS.ExcCtx
import HandS.CallSlots
import HandS.CallLocal
import HandS.TryMany
import HandS.ExcBuiltin
import KE.DataFind
import KE.KTryMore
import KE.GoesEnum
import HandS.TryOnly
import PySem.Challenge.RW_turndoors_k04_glue
section
set_option Elab.async false
set_option linter.all false
set_option maxRecDepth 100000
set_option autoImplicit false
/-! Pd: values as data. What a def computes, said over data (PyData) in place of addresses; lists and dicts of a def's own stand in its slots. -/
namespace Pd
open PySem PySem.Spec PyProof.Rows L2

abbrev D := PyData
/-- what a value stands for: data; a box (an address of three ints that a callee may change); the script; an object nobody looks into; a dict; the repr of data -/
inductive W where
  | d (x : D) | p (a : Addr) | sq (a : Addr) (ns : List Int) | f (a : Addr) | dk (kvs : List (Key × D)) | dt (kvs : List (List Key × D)) | rp (x : D) | xn (a : Addr) (d : Option Addr) (fs : List (Str × D))
/-- what a list or dict of the def's own holds -/
inductive Mu where
  | l (ds : List D) | k (kvs : List (Key × D)) | t (kvs : List (List Key × D)) | kl (kvs : List (Key × (Addr × List D))) | ll (xs : List (Addr × List D))
/-- the lists within -/
def Mu.subs : Mu → List Addr
  | .kl kvs => kvs.map (·.2.1)
  | .ll xs => xs.map (·.1)
  | _ => []
abbrev Mu.owns (a : Addr) (m : Mu) : List Addr := a :: m.subs
/-- a slot: nothing known; a value; a list or dict that only this slot has -/
inductive Sl where
  | un | sh (w : W) | mu (m : Mu)
abbrev Rh := List Sl

/-! ### data: lists are tracked ones; texts are of true signs, and not too long -/
structure SOk (x : Str) : Prop where
  ok : PyData.strOk x = true
  len : x.length ≤ sizeLine
mutual
inductive Dd (K : PySem.W.Frag) (G : Hp) : V → D → Prop
  | non : Dd K G .non .none
  | bl (b : Bool) : Dd K G (.bl b) (.bool b)
  | int (i : Int) : Dd K G (.int i) (.int i)
  | str (x : Str) : SOk x → Dd K G (.str x) (.str x)
  | lst {a : Addr} {xs : List V} {ds : List D} : G a = some (.lst xs) → DdAll K G xs ds → Dd K G (.ref a) (.list ds)
  | tup {a : Addr} {xs : List V} {ds : List D} : G a = some (.tup xs) → DdAll K G xs ds → Dd K G (.ref a) (.tuple ds)
inductive DdAll (K : PySem.W.Frag) (G : Hp) : List V → List D → Prop
  | nil : DdAll K G [] []
  | cons {v : V} {vs : List V} {d : D} {ds : List D} : Dd K G v d → DdAll K G vs ds → DdAll K G (v :: vs) (d :: ds)
end
section
variable {K : PySem.W.Frag} {G : Hp}
mutual
theorem ddDp : ∀ (d : D) (v : V), Dd K G v d → Dp K G v d
  | .none, _, h => by cases h; exact .non
  | .bool b, _, h => by cases h; exact .bl b
  | .int i, _, h => by cases h; exact .int i
  | .str x, _, h => by cases h; exact .str x
  | .list ds, _, h => by
    cases h with
    | lst hs ha => exact .lst (.inl (.inl hs)) (ddsDp ds _ ha)
  | .tuple ds, _, h => by
    cases h with
    | tup hs ha => exact .tup (.inl (.inl hs)) (ddsDp ds _ ha)
  | .dict _, _, h => by cases h
theorem ddsDp : ∀ (ds : List D) (vs : List V), DdAll K G vs ds → DpAll K G vs ds
  | [], _, h => by cases h; exact .nil
  | d :: ds, _, h => by
    cases h with
    | cons h1 h2 => exact .cons (ddDp d _ h1) (ddsDp ds _ h2)
end
end
section
variable {K : PySem.W.Frag} {G : Hp}
mutual
theorem ddLay : ∀ (d : D) (v : V), Dd K G v d → d.canLay0 = true
  | .none, _, h => by rw [PyData.canLay0]
  | .bool b, _, h => by rw [PyData.canLay0]
  | .int i, _, h => by rw [PyData.canLay0]
  | .str x, _, h => by
    cases h with
    | str _ q =>
      rw [PyData.canLay0]
      exact q.ok
  | .list ds, _, h => by
    cases h with
    | lst hs ha =>
      rw [PyData.canLay0]
      exact ddsLay ds _ ha
  | .tuple ds, _, h => by
    cases h with
    | tup hs ha =>
      rw [PyData.canLay0]
      exact ddsLay ds _ ha
  | .dict _, _, h => by cases h
theorem ddsLay : ∀ (ds : List D) (vs : List V), DdAll K G vs ds → PyData.canLayAll0 ds = true
  | [], _, h => by rw [PyData.canLayAll0]
  | d :: ds, _, h => by
    cases h with
    | cons h1 h2 =>
      rw [PyData.canLayAll0, ddLay d _ h1, ddsLay ds _ h2]
      rfl
end
end
/-- an object from outside: a box; the script -/
inductive Xk where
  | box | scr (ns : List Int)
abbrev Ext := Addr → Xk → Prop
def BoxAt (H : Hp) (a : Addr) : Prop := ∃ i j k : Int, H a = some (.lst [.int i, .int j, .int k])
abbrev KvD {κ : Type} (K : PySem.W.Frag) (G : Hp) : List (κ × V) → List (κ × D) → Prop := Paired fun p q => p.1 = q.1 ∧ Dd K G p.2 q.2
def Rw (K : PySem.W.Frag) (EX : Ext) (G : Hp) (v : V) : W → Prop
  | .d x => Dd K G v x
  | .p a => v = .ref a ∧ EX a .box
  | .sq a ns => v = .ref a ∧ EX a (.scr ns)
  | .f a => v = .ref a
  | .dk kvs => ∃ a vs, v = .ref a ∧ G a = some (.dK vs) ∧ KvD K G vs kvs
  | .dt kvs => ∃ a vs, v = .ref a ∧ G a = some (.dT vs) ∧ KvD K G vs kvs
  | .rp x => v = .str x.shown
  | .xn a d fs => v = .ref a ∧ ∃ (dd : Addr) (us : List (Str × V)), d = some dd ∧ G dd = some (.xd us) ∧ KvD K G us fs
abbrev RwAll (K : PySem.W.Frag) (EX : Ext) (G : Hp) : List V → List W → Prop := Paired (Rw K EX G)
def SubAt (K : PySem.W.Frag) (G H : Hp) (xs : List (Addr × List D)) : Prop := ∀ p ∈ xs, ∃ vs, H p.1 = some (.lst vs) ∧ DdAll K G vs p.2
def MuAt (K : PySem.W.Frag) (G H : Hp) (a : Addr) : Mu → Prop
  | .l ds => ∃ vs, H a = some (.lst vs) ∧ DdAll K G vs ds
  | .k kvs => ∃ vs, H a = some (.dK vs) ∧ KvD K G vs kvs
  | .t kvs => ∃ vs, H a = some (.dT vs) ∧ KvD K G vs kvs
  | .kl kvs => H a = some (.dK (kvs.map fun p => (p.1, V.ref p.2.1))) ∧ SubAt K G H (kvs.map (·.2)) ∧ (a :: kvs.map (·.2.1)).Nodup
  | .ll xs => H a = some (.lst (xs.map fun p => V.ref p.1)) ∧ SubAt K G H xs ∧ (a :: xs.map (·.1)).Nodup

/-! ### data stays -/
theorem seqT {K : PySem.W.Frag} {H H' : Hp} {a : Addr} {xs : List V} (e : Same H H') (h : SqT K H a xs) : SqT K H' a xs := by
  rcases h with (h | ⟨o, h⟩) | h
  · exact .inl (.inl (e _ _ h))
  · exact .inl (.inr ⟨o, e _ _ h⟩)
  · exact .inr h
section
variable {K : PySem.W.Frag} {G G' H H' : Hp} {EX EX' : Ext}
mutual
theorem dpMono (s : Same G G') : ∀ (d : D) (v : V), Dd K G v d → Dd K G' v d
  | .none, _, h => by cases h; exact .non
  | .bool b, _, h => by cases h; exact .bl b
  | .int i, _, h => by cases h; exact .int i
  | .str x, _, h => by cases h with | str _ q => exact .str x q
  | .list ds, _, h => by
    cases h with
    | lst hs ha => exact .lst (s _ _ hs) (dpsMono s ds _ ha)
  | .tuple ds, _, h => by
    cases h with
    | tup hs ha => exact .tup (s _ _ hs) (dpsMono s ds _ ha)
  | .dict _, _, h => by cases h
theorem dpsMono (s : Same G G') : ∀ (ds : List D) (vs : List V), DdAll K G vs ds → DdAll K G' vs ds
  | [], _, h => by cases h; exact .nil
  | d :: ds, _, h => by
    cases h with
    | cons h1 h2 => exact .cons (dpMono s d _ h1) (dpsMono s ds _ h2)
end
theorem dpLen : ∀ {vs : List V} {ds : List D}, DdAll K G vs ds → vs.length = ds.length
  | _, [], h => by cases h; rfl
  | _, d :: ds, h => by
    cases h with
    | cons h1 h2 => rw [List.length_cons, List.length_cons, dpLen h2]
theorem dpGet : ∀ {vs : List V} {ds : List D} {i : Nat} {d : D}, DdAll K G vs ds → ds[i]? = some d → ∃ v, vs[i]? = some v ∧ Dd K G v d
  | _, [], _, _, _, e => by simp at e
  | _, x :: ds, 0, d, h, e => by
    cases h with
    | cons h1 h2 =>
      simp at e
      subst e
      exact ⟨_, rfl, h1⟩
  | _, x :: ds, i + 1, d, h, e => by
    cases h with
    | cons h1 h2 =>
      obtain ⟨v, q1, q2⟩ := dpGet (i := i) (d := d) h2 (by simpa using e)
      exact ⟨v, by simpa using q1, q2⟩
theorem dpGetV : ∀ {vs : List V} {ds : List D} {i : Nat} {v : V}, DdAll K G vs ds → vs[i]? = some v → ∃ d, ds[i]? = some d ∧ Dd K G v d
  | _, [], _, _, h, e => by cases h; simp at e
  | _, x :: ds, 0, v, h, e => by
    cases h with
    | cons h1 h2 =>
      simp at e
      subst e
      exact ⟨_, rfl, h1⟩
  | _, x :: ds, i + 1, v, h, e => by
    cases h with
    | cons h1 h2 =>
      obtain ⟨d, q1, q2⟩ := dpGetV (i := i) (v := v) h2 (by simpa using e)
      exact ⟨d, by simpa using q1, q2⟩
theorem dpApp : ∀ {vs vs' : List V} {ds ds' : List D}, DdAll K G vs ds → DdAll K G vs' ds' → DdAll K G (vs ++ vs') (ds ++ ds')
  | _, _, [], _, h, h' => by cases h; exact h'
  | _, _, d :: ds, _, h, h' => by
    cases h with
    | cons h1 h2 => exact .cons h1 (dpApp h2 h')
theorem dpTake : ∀ {vs : List V} {ds : List D} (n : Nat), DdAll K G vs ds → DdAll K G (vs.take n) (ds.take n)
  | _, _, 0, _ => by simp; exact .nil
  | _, [], n + 1, h => by cases h; simp; exact .nil
  | _, d :: ds, n + 1, h => by
    cases h with
    | cons h1 h2 => exact .cons h1 (dpTake n h2)
theorem dpDrop : ∀ {vs : List V} {ds : List D} (n : Nat), DdAll K G vs ds → DdAll K G (vs.drop n) (ds.drop n)
  | _, _, 0, h => h
  | _, [], n + 1, h => by cases h; simp; exact .nil
  | _, d :: ds, n + 1, h => by
    cases h with
    | cons h1 h2 => exact dpDrop n h2
theorem dpSet {v : V} {d : D} (h : Dd K G v d) : ∀ {vs : List V} {ds : List D} (n : Nat), DdAll K G vs ds → DdAll K G (vs.set n v) (ds.set n d)
  | _, [], n, q => by cases q; exact .nil
  | _, x :: ds, 0, q => by
    cases q with
    | cons h1 h2 => exact .cons h h2
  | _, x :: ds, n + 1, q => by
    cases q with
    | cons h1 h2 => exact .cons h1 (dpSet h n h2)
theorem dpErase : ∀ {vs : List V} {ds : List D} (n : Nat), DdAll K G vs ds → DdAll K G (vs.eraseIdx n) (ds.eraseIdx n)
  | _, [], n, q => by cases q; exact .nil
  | _, x :: ds, 0, q => by
    cases q with
    | cons h1 h2 => exact h2
  | _, x :: ds, n + 1, q => by
    cases q with
    | cons h1 h2 => exact .cons h1 (dpErase n h2)
theorem dpRev {vs : List V} {ds : List D} (h : DdAll K G vs ds) : DdAll K G vs.reverse ds.reverse := by
  induction ds generalizing vs with
  | nil => cases h; exact .nil
  | cons d ds ih =>
    cases h with
    | cons h1 h2 =>
      rw [List.reverse_cons, List.reverse_cons]
      exact dpApp (ih h2) (.cons h1 .nil)
theorem dpOne {v : V} {d : D} (h : Dd K G v d) : DdAll K G [v] [d] := .cons h .nil
theorem kvMono {κ : Type} (s : Same G G') : ∀ {vs : List (κ × V)} {kvs : List (κ × D)}, KvD K G vs kvs → KvD K G' vs kvs
  | _, _, .nil => .nil
  | _, _, .cons h t => .cons ⟨h.1, dpMono s _ _ h.2⟩ (kvMono s t)
theorem rwMono {v : V} {r : W} (s : Same G G') (b : ∀ a k, EX a k → EX' a k) (h : Rw K EX G v r) : Rw K EX' G' v r := by
  cases r with
  | d x => exact dpMono s _ _ h
  | p a => exact ⟨h.1, b _ _ h.2⟩
  | sq a ns => exact ⟨h.1, b _ _ h.2⟩
  | f a => exact h
  | rp x => exact h
  | xn a d fs => obtain ⟨e, dd, us, e1, g, q⟩ := h; exact ⟨e, dd, us, e1, s _ _ g, kvMono s q⟩
  | dk kvs => obtain ⟨a, vs, e, g, q⟩ := h; exact ⟨a, vs, e, s _ _ g, kvMono s q⟩
  | dt kvs => obtain ⟨a, vs, e, g, q⟩ := h; exact ⟨a, vs, e, s _ _ g, kvMono s q⟩
theorem rwAllMono (s : Same G G') (b : ∀ a k, EX a k → EX' a k) : ∀ {vs : List V} {ws : List W}, RwAll K EX G vs ws → RwAll K EX' G' vs ws
  | _, _, .nil => .nil
  | _, _, .cons h t => .cons (rwMono s b h) (rwAllMono s b t)
theorem subMono {xs : List (Addr × List D)} (s : Same G G') (e : ∀ p ∈ xs, H' p.1 = H p.1) (h : SubAt K G H xs) : SubAt K G' H' xs := fun p hp => by
  obtain ⟨vs, g, q⟩ := h p hp
  exact ⟨vs, (e p hp).trans g, dpsMono s _ _ q⟩
theorem muMono {a : Addr} {m : Mu} (s : Same G G') (e : ∀ b ∈ m.owns a, H' b = H b) (h : MuAt K G H a m) : MuAt K G' H' a m := by
  have e0 := e a List.mem_cons_self
  cases m with
  | l ds => obtain ⟨vs, g, q⟩ := h; exact ⟨vs, e0.trans g, dpsMono s _ _ q⟩
  | k kvs => obtain ⟨vs, g, q⟩ := h; exact ⟨vs, e0.trans g, kvMono s q⟩
  | t kvs => obtain ⟨vs, g, q⟩ := h; exact ⟨vs, e0.trans g, kvMono s q⟩
  | kl kvs =>
    obtain ⟨g, q, n⟩ := h
    refine ⟨e0.trans g, subMono s (fun p hp => e _ (List.mem_cons_of_mem _ ?_)) q, n⟩
    obtain ⟨x, hx, rfl⟩ := List.mem_map.mp hp
    exact List.mem_map.mpr ⟨x, hx, rfl⟩
  | ll xs =>
    obtain ⟨g, q, n⟩ := h
    exact ⟨e0.trans g, subMono s (fun p hp => e _ (List.mem_cons_of_mem _ (List.mem_map.mpr ⟨p, hp, rfl⟩))) q, n⟩
theorem muThere {a : Addr} {m : Mu} (h : MuAt K G H a m) : ∀ b ∈ m.owns a, ∃ o, H b = some o ∧ ∀ ob x, o ≠ .frz ob x := by
  intro b hb
  cases m with
  | l ds =>
    obtain ⟨vs, g, q⟩ := h
    rw [show b = a by simpa [Mu.owns, Mu.subs] using hb]
    exact ⟨_, g, fun _ _ z => by cases z⟩
  | k kvs =>
    obtain ⟨vs, g, q⟩ := h
    rw [show b = a by simpa [Mu.owns, Mu.subs] using hb]
    exact ⟨_, g, fun _ _ z => by cases z⟩
  | t kvs =>
    obtain ⟨vs, g, q⟩ := h
    rw [show b = a by simpa [Mu.owns, Mu.subs] using hb]
    exact ⟨_, g, fun _ _ z => by cases z⟩
  | kl kvs =>
    obtain ⟨g, q, n⟩ := h
    rcases List.mem_cons.mp hb with rfl | hb
    · exact ⟨_, g, fun _ _ z => by cases z⟩
    · obtain ⟨x, hx, rfl⟩ := List.mem_map.mp hb
      obtain ⟨vs, g', _⟩ := q _ (List.mem_map.mpr ⟨x, hx, rfl⟩)
      exact ⟨_, g', fun _ _ z => by cases z⟩
  | ll xs =>
    obtain ⟨g, q, n⟩ := h
    rcases List.mem_cons.mp hb with rfl | hb
    · exact ⟨_, g, fun _ _ z => by cases z⟩
    · obtain ⟨x, hx, rfl⟩ := List.mem_map.mp hb
      obtain ⟨vs, g', _⟩ := q _ hx
      exact ⟨_, g', fun _ _ z => by cases z⟩
theorem boxThere {a : Addr} (h : BoxAt H a) : ∃ o, H a = some o := by
  obtain ⟨i, j, k, e⟩ := h
  exact ⟨_, e⟩
end

/-! ### steps of the heap -/
/-- G: the part that stands still; EX: the objects from outside -/
def ScrAt (K : PySem.W.Frag) (H : Hp) (b : Addr) (ns : List Int) : Prop := (∃ o, H b = some (.frz o (.lst (ns.map V.int)))) ∨
    ∃ (o : Obj) (its : Array Value) (n : Nat), K.lookup b = some o ∧ o.cls = .type "list" ∧ o.dict = none ∧ o.data = .seq its n ∧ its.size ≤ sizeLine ∧ Vals (ns.map V.int) its.toList
theorem ScrAt.seq {K : PySem.W.Frag} {H : Hp} {b : Addr} {ns : List Int} (h : ScrAt K H b ns) : SqL K H b (ns.map V.int) := by
  rcases h with h | h
  · exact .inl (.inr h)
  · exact .inr h
structure Gd (K : PySem.W.Frag) (EX : Ext) (G H : Hp) : Prop where
  sub : Same G H
  bx : ∀ b, EX b .box → BoxAt H b
  sc : ∀ b ns, EX b (.scr ns) → ScrAt K H b ns
  ex : ∀ b, EX b .box → G b = none
structure Step (EX : Ext) (G H G' H' : Hp) : Prop where
  st : ∀ b o, H b = some o → EX b .box ∨ H' b = some o
  bx : ∀ b, EX b .box → BoxAt H' b
  gg : Same G G'
  sub : Same G' H'
  gn : ∀ b o, G' b = some o → G b = some o ∨ H b = none
  ex : ∀ b, EX b .box → G' b = none
structure SlAt (K : PySem.W.Frag) (EX : Ext) (G H : Hp) (so : Option (Option V)) (s : Sl) : Prop where
  sh : ∀ w, s = .sh w → ∃ v, so = some (some v) ∧ Rw K EX G v w
  mu : ∀ m, s = .mu m → ∃ a, so = some (some (.ref a)) ∧ (∀ b ∈ m.owns a, G b = none ∧ ¬ EX b .box) ∧ MuAt K G H a m
structure Rel (K : PySem.W.Frag) (EX : Ext) (G H : Hp) (σ : L2.St) (ρ : Rh) : Prop extends Gd K EX G H where
  sl : ∀ (i : Nat) (s : Sl), ρ[i]? = some s → SlAt K EX G H σ[i]? s
  df : ∀ (i j : Nat) (m m' : Mu) (a a' b : Addr), ρ[i]? = some (.mu m) → ρ[j]? = some (.mu m') → σ[i]? = some (some (.ref a)) → σ[j]? = some (some (.ref a')) → b ∈ m.owns a → b ∈ m'.owns a' → i = j
  len : σ.length = ρ.length
/-- what the slots own -/
def Own (σ : L2.St) (ρ : Rh) (b : Addr) : Prop := ∃ (i : Nat) (m : Mu) (a : Addr), ρ[i]? = some (.mu m) ∧ σ[i]? = some (some (.ref a)) ∧ b ∈ m.owns a

theorem slUn {K : PySem.W.Frag} {EX : Ext} {G H : Hp} {so : Option (Option V)} : SlAt K EX G H so .un := ⟨fun _ e => (by cases e), fun _ e => (by cases e)⟩
theorem slSh {K : PySem.W.Frag} {EX : Ext} {G H : Hp} {v : V} {w : W} (h : Rw K EX G v w) : SlAt K EX G H (some (some v)) (.sh w) :=
  ⟨fun _ e => (by cases e; exact ⟨v, rfl, h⟩), fun _ e => (by cases e)⟩
theorem slMu {K : PySem.W.Frag} {EX : Ext} {G H : Hp} {a : Addr} {m : Mu} (g : ∀ b ∈ m.owns a, G b = none ∧ ¬ EX b .box) (h : MuAt K G H a m) : SlAt K EX G H (some (some (.ref a))) (.mu m) :=
  ⟨fun _ e => (by cases e), fun _ e => (by cases e; exact ⟨a, rfl, g, h⟩)⟩

section
variable {K : PySem.W.Frag} {EX EX' : Ext} {G H G1 H1 G2 H2 : Hp} {σ : L2.St} {ρ : Rh}
theorem Gd.refl (R : Gd K EX G H) : Step EX G H G H := ⟨fun _ _ h => .inr h, fun b h => R.bx b h, Same.refl G, R.sub, fun _ _ h => .inl h, R.ex⟩
theorem Step.trans (a : Step EX G H G1 H1) (b : Step EX G1 H1 G2 H2) : Step EX G H G2 H2 where
  st := fun c o h => by
    rcases a.st c o h with q | q
    · exact .inl q
    · exact b.st c o q
  bx := b.bx
  gg := a.gg.trans b.gg
  sub := b.sub
  gn := fun c o h => by
    rcases b.gn c o h with q | q
    · exact a.gn c o q
    · right
      cases e : H c with
      | none => rfl
      | some u =>
        rcases a.st c u e with z | z
        · obtain ⟨o', z'⟩ := boxThere (a.bx c z)
          rw [q] at z'; cases z'
        · rw [q] at z; cases z
  ex := b.ex
theorem Step.fresh (a : Step EX G H G1 H1) {p : Addr} (h : H1 p = none) : H p = none := by
  cases e : H p with
  | none => rfl
  | some u =>
    rcases a.st p u e with z | z
    · obtain ⟨o', z'⟩ := boxThere (a.bx p z)
      rw [h] at z'; cases z'
    · rw [h] at z; cases z
theorem Gd.step (R : Gd K EX G H) (S : Step EX G H G1 H1) : Gd K EX G1 H1 where
  sub := S.sub
  bx := S.bx
  sc := fun b ns h => by
    rcases R.sc b ns h with ⟨o, q⟩ | q
    · refine .inl ⟨o, (S.st b _ q).resolve_left fun z => ?_⟩
      obtain ⟨i, j, k, e⟩ := R.bx b z
      rw [q] at e; cases e
    · exact .inr q
  ex := S.ex
/-- the owned, the boxes and the still parts are apart -/
theorem Rel.ownAt (R : Rel K EX G H σ ρ) {b : Addr} (o : Own σ ρ b) : G b = none ∧ ¬ EX b .box ∧ ∃ u, H b = some u ∧ ∀ ob x, u ≠ .frz ob x := by
  obtain ⟨i, m, a, e1, e2, e3⟩ := o
  obtain ⟨a', q1, q2, q4⟩ := (R.sl i _ e1).mu m rfl
  rw [e2] at q1
  cases q1
  exact ⟨(q2 b e3).1, (q2 b e3).2, muThere q4 b e3⟩
theorem SlAt.step {so : Option (Option V)} {s : Sl} (h : SlAt K EX G H so s) (S : Step EX G H G1 H1) : SlAt K EX G1 H1 so s := ⟨fun w z => by
    obtain ⟨v, q1, q2⟩ := h.sh w z
    exact ⟨v, q1, rwMono S.gg (fun _ _ h => h) q2⟩, fun m z => by
    obtain ⟨a, q1, q2, q4⟩ := h.mu m z
    refine ⟨a, q1, fun b hb => ⟨?_, (q2 b hb).2⟩, muMono S.gg (fun b hb => ?_) q4⟩
    · obtain ⟨u, hu, _⟩ := muThere q4 b hb
      cases e2 : G1 b with
      | none => rfl
      | some o =>
        rcases S.gn b o e2 with z | z
        · rw [(q2 b hb).1] at z; cases z
        · rw [hu] at z; cases z
    · obtain ⟨u, hu, _⟩ := muThere q4 b hb
      rcases S.st b u hu with z | z
      · exact absurd z (q2 b hb).2
      · exact z.trans hu.symm⟩
theorem Rel.step (R : Rel K EX G H σ ρ) (S : Step EX G H G1 H1) : Rel K EX G1 H1 σ ρ where
  toGd := R.toGd.step S
  sl := fun i s e => (R.sl i s e).step S
  df := R.df
  len := R.len
theorem Rel.var (R : Rel K EX G H σ ρ) {i : Nat} {w : W} (e : ρ[i]? = some (.sh w)) : ∃ v, σ[i]? = some (some v) ∧ Rw K EX G v w := (R.sl i _ e).sh w rfl
theorem Rel.own (R : Rel K EX G H σ ρ) {i : Nat} {m : Mu} (e : ρ[i]? = some (.mu m)) : ∃ a, σ[i]? = some (some (.ref a)) ∧ (∀ b ∈ m.owns a, G b = none ∧ ¬ EX b .box) ∧ MuAt K G H a m := (R.sl i _ e).mu m rfl
theorem Gd.free (R : Gd K EX G H) {p : Addr} (hp : H p = none) : G p = none := by
  cases e : G p with
  | none => rfl
  | some o => rw [R.sub p o e] at hp; cases hp
theorem Gd.notBox (R : Gd K EX G H) {p : Addr} (hp : H p = none) : ¬ EX p .box := fun h => by
  obtain ⟨o, z⟩ := boxThere (R.bx p h)
  rw [hp] at z; cases z
/-- a new object that stands still -/
theorem Gd.new (R : Gd K EX G H) {p : Addr} {o : HO} (hp : H p = none) : Step EX G H (upd G p o) (upd H p o) where
  st := fun b u h => .inr (by rw [upd_ne (ne_of_none h hp)]; exact h)
  bx := fun b h => by
    obtain ⟨i, j, k, e⟩ := R.bx b h
    exact ⟨i, j, k, by rw [upd_ne (ne_of_none e hp)]; exact e⟩
  gg := fun b u h => by
    rw [upd_ne (ne_of_none (R.sub b u h) hp)]
    exact h
  sub := fun b u h => by
    by_cases e : b = p
    · subst e; rw [upd_same] at h ⊢; exact h
    · rw [upd_ne e] at h ⊢; exact R.sub b u h
  gn := fun b u h => by
    by_cases e : b = p
    · subst e; exact .inr hp
    · rw [upd_ne e] at h; exact .inl h
  ex := fun b h => by
    have hb : b ≠ p := fun e => R.notBox hp (e ▸ h)
    rw [upd_ne hb]
    exact R.ex b h
/-- a new object outside -/
theorem Gd.newOut (R : Gd K EX G H) {p : Addr} {o : HO} (hp : H p = none) : Step EX G H G (upd H p o) where
  st := fun b u h => .inr (by rw [upd_ne (ne_of_none h hp)]; exact h)
  bx := fun b h => by
    obtain ⟨i, j, k, e⟩ := R.bx b h
    exact ⟨i, j, k, by rw [upd_ne (ne_of_none e hp)]; exact e⟩
  gg := Same.refl G
  sub := fun b u h => by
    have h' := R.sub b u h
    rw [upd_ne (ne_of_none h' hp)]
    exact h'
  gn := fun b u h => .inl h
  ex := R.ex
/-- a fresh object outside comes to stand still -/
theorem Gd.still (R : Gd K EX G H) {p : Addr} {o : HO} (ho : H p = some o) (hb : ¬ EX p .box) (hg : G p = none) : Gd K EX (upd G p o) H where
  sub := fun b u h => by
    by_cases e : b = p
    · subst e; rw [upd_same] at h; rw [← h]; exact ho
    · rw [upd_ne e] at h; exact R.sub b u h
  bx := R.bx
  sc := R.sc
  ex := fun b h => by
    have e : b ≠ p := fun e => hb (e ▸ h)
    rw [upd_ne e]
    exact R.ex b h
end
theorem same_upd_new {G : Hp} {p : Addr} {o : HO} (h : G p = none) : Same G (upd G p o) := fun b u e => by
  rw [upd_ne (ne_of_none e h)]
  exact e
end Pd
end

section
set_option Elab.async false
set_option linter.all false
set_option maxRecDepth 100000
set_option autoImplicit false
/-! Pd, expressions -/
namespace Pd
open PySem PySem.Spec PyProof.Rows L2

abbrev WE := Rh → (W → Prop) → Prop
abbrev WT := Rh → (Bool → Prop) → Prop
abbrev WA := Rh → (List W → Prop) → Prop
abbrev WD := Rh → (List D → Prop) → Prop

/-! ### lengths are bounded -/
structure Bd (K : PySem.W.Frag) (H : Hp) : Prop where
  l : ∀ a xs, SqL K H a xs → xs.length ≤ sizeLine
  t : ∀ a xs, SqT K H a xs → xs.length ≤ sizeLine
theorem bd_of {X : Cx} {pins : List (Addr × Obj)} {σ : L2.St} {H : Hp} {s : Shared} (I : Inv X pins σ H s) : Bd X.K H :=
  ⟨fun a xs h => let ⟨_, _, _, z⟩ := I.list h; z, fun a xs h => let ⟨_, _, _, z⟩ := I.tuple h; z⟩
def bdE (K : PySem.W.Frag) (t : TE) : TE := fun σ H Q => Bd K H → t σ H Q
theorem pe_bd {X : Cx} {e : Expr} {t : TE} (h : PE X e t) : PE X e (bdE X.K t) := ⟨fun pins s σ H Q I q => h.run pins s σ H Q I (q (bd_of I))⟩
def bdI (K : PySem.W.Frag) (t : TI) : TI := fun σ H R => Bd K H → t σ H R
theorem pi_bd {X : Cx} {tg e : Expr} {t : TI} (h : PI X tg e t) : PI X tg e (bdI X.K t) := ⟨fun pins s σ H R I q => h.run pins s σ H R I (q (bd_of I))⟩

/-! ### the judgements: a reading and what it says of data -/
def SoE (K : PySem.W.Frag) (t : TE) (w : WE) : Prop := ∀ (EX : Ext) (G H : Hp) (σ : L2.St) (ρ : Rh) (Φ : W → Prop), Rel K EX G H σ ρ → w ρ Φ →
  ∀ Q : VK, (∀ v G' H' r, Step EX G H G' H' → Rw K EX G' v r → Φ r → Q v H') → t σ H Q
structure ME (X : Cx) (e : Expr) (t : TE) (w : WE) : Prop where
  pe : PE X e t
  so : SoE X.K t w
def SoT (K : PySem.W.Frag) (t : TT) (w : WT) : Prop := ∀ (EX : Ext) (G H : Hp) (σ : L2.St) (ρ : Rh) (Φ : Bool → Prop), Rel K EX G H σ ρ → w ρ Φ →
  ∀ Q : Bool → Hp → Prop, (∀ b G' H', Step EX G H G' H' → Φ b → Q b H') → t σ H Q
structure MT (X : Cx) (e : Expr) (t : TT) (w : WT) : Prop where
  pt : PT X e t
  so : SoT X.K t w
/-- a test of and, or -/
structure MW (X : Cx) (e : Expr) (t : TT) (w : WT) : Prop where
  pw : PW X e t
  so : SoT X.K t w
def SoA (K : PySem.W.Frag) (t : TA) (w : WA) : Prop := ∀ (EX : Ext) (G H : Hp) (σ : L2.St) (ρ : Rh) (Φ : List W → Prop), Rel K EX G H σ ρ → w ρ Φ →
  ∀ Q : List V → Hp → Prop, (∀ vs G' H' rs, Step EX G H G' H' → RwAll K EX G' vs rs → Φ rs → Q vs H') → t σ H Q
structure MA (X : Cx) (es : List Expr) (t : TA) (w : WA) : Prop where
  pa : PA X es t
  so : SoA X.K t w
/-- a new list, that nobody else has -/
def SoL (K : PySem.W.Frag) (t : TE) (w : WD) : Prop := ∀ (EX : Ext) (G H : Hp) (σ : L2.St) (ρ : Rh) (Φ : List D → Prop), Rel K EX G H σ ρ → w ρ Φ →
  ∀ Q : VK, (∀ a vs G' H' ds, Step EX G H G' H' → H a = none → G' a = none → ¬ EX a .box → H' a = some (.lst vs) → DdAll K G' vs ds → Φ ds → Q (.ref a) H') → t σ H Q
structure ML (X : Cx) (e : Expr) (t : TE) (w : WD) : Prop where
  pe : PE X e t
  so : SoL X.K t w

section
variable {X : Cx} {e a b c : Expr} {es : List Expr} {t ta tb tc : TE} {tA : TA} {w wa wb wc : WE} {wA : WA} {pos : Pos}

/-! ### names, constants -/
def wVar (i : Nat) : WE := fun ρ Φ => match ρ[i]? with
  | some (.sh r) => Φ r
  | _ => False
theorem wVar_iff {i : Nat} {ρ : Rh} {Φ : W → Prop} (h : wVar i ρ Φ) : ∃ r, ρ[i]? = some (.sh r) ∧ Φ r := by
  unfold wVar at h
  split at h
  · exact ⟨_, by assumption, h⟩
  · exact h.elim
theorem so_var {K : PySem.W.Frag} (i : Nat) : SoE K (tVar i) (wVar i) := fun EX G H σ ρ Φ R h Q q => by
  obtain ⟨r, e, f⟩ := wVar_iff h
  obtain ⟨v, e1, rv⟩ := R.var e
  exact ⟨v, e1, q v G H r R.refl rv f⟩
theorem me_var (i : Nat) {x : Str} (hN : X.N[i]? = some x := by rfl) (hv : Vis X.env.scope x := by first | exact Or.inl rfl | exact Or.inr (Or.inl rfl) | exact Or.inr (Or.inr rfl)) (hd : (x == ("__debug__" : Str)) = false := by decide)
    (hcd : (x == ("__classdict__" : Str)) = false := by decide) : ME X (.Name x pos) (tVar i) (wVar i) := ⟨pv i hN hv hd hcd, so_var i⟩
def wC (r : W) : WE := fun _ Φ => Φ r
theorem so_c {K : PySem.W.Frag} {v : V} {r : W} (h : ∀ EX G, Rw K EX G v r) : SoE K (tC v) (wC r) := fun EX G H σ ρ Φ R f Q q => q v G H r R.refl (h EX G) f
theorem me_int {i : Int} {j : Nat} : ME X (.Constant (.int i) j pos) (tC (.int i)) (wC (.d (.int i))) := ⟨pe_int, so_c fun _ _ => .int i⟩
theorem me_bl {k : Bool} {j : Nat} : ME X (.Constant (.bool k) j pos) (tC (.bl k)) (wC (.d (.bool k))) := ⟨pe_bl, so_c fun _ _ => .bl k⟩
theorem me_non {j : Nat} : ME X (.Constant .none j pos) (tC .non) (wC (.d .none)) := ⟨pe_non, so_c fun _ _ => .non⟩
theorem me_str {x : Str} {j : Nat} (h1 : PyData.strOk x = true := by decide +kernel) (h2 : x.length ≤ sizeLine := by decide +kernel) : ME X (.Constant (.str x) j pos) (tC (.str x)) (wC (.d (.str x))) := ⟨pe_str, so_c fun _ _ => .str x ⟨h1, h2⟩⟩

/-! ### arguments, tuples, lists -/
def wNil : WA := fun _ Φ => Φ []
def wCons (w : WE) (u : WA) : WA := fun ρ Φ => w ρ fun r => u ρ fun rs => Φ (r :: rs)
theorem ma_nil : MA X [] tNil wNil := ⟨pa_nil, fun EX G H σ ρ Φ R f Q q => q [] G H [] R.refl .nil f⟩
theorem so_cons {K : PySem.W.Frag} (h : SoE K t w) (h2 : SoA K tA wA) : SoA K (tCons t tA) (wCons w wA) := fun EX G H σ ρ Φ R f Q q =>
  h EX G H σ ρ _ R f _ fun v G1 H1 r S1 rv f1 => h2 EX G1 H1 σ ρ _ (R.step S1) f1 _ fun vs G2 H2 rs S2 rvs f2 =>
    q (v :: vs) G2 H2 (r :: rs) (S1.trans S2) (.cons (rwMono S2.gg (fun _ _ h => h) rv) rvs) f2
theorem ma_cons (h : ME X e t w) (h2 : MA X es tA wA) (hs : starEach (e :: es) X.env = (false, eval e X.env) :: starEach es X.env := by rfl) : MA X (e :: es) (tCons t tA) (wCons w wA) := ⟨pa_cons h.pe h2.pa hs, so_cons h.so h2.so⟩
/-- the data of several values -/
def dats : List W → Option (List D)
  | [] => some []
  | .d x :: r => match dats r with
    | some ds => some (x :: ds)
    | none => none
  | _ :: _ => none
theorem dats_dd {K : PySem.W.Frag} {EX : Ext} {G : Hp} : ∀ {vs : List V} {rs : List W} {ds : List D}, RwAll K EX G vs rs → dats rs = some ds → DdAll K G vs ds
  | _, [], ds, .nil, e => by
    cases e
    exact .nil
  | _, r :: rs, ds, .cons h t, e => by
    cases r with
    | d x =>
      unfold dats at e
      split at e
      · cases e
        exact .cons h (dats_dd t (by assumption))
      · cases e
    | _ => cases e
/-- a written number of items -/
def datsW (rs : List W) (Φ : List D → Prop) : Prop := match dats rs with
  | some ds => ds.length ≤ 1000 ∧ Φ ds
  | none => False
theorem datsW_iff {rs : List W} {Φ : List D → Prop} (h : datsW rs Φ) : ∃ ds, dats rs = some ds ∧ ds.length ≤ 1000 ∧ Φ ds := by
  unfold datsW at h
  split at h
  · exact ⟨_, by assumption, h⟩
  · exact h.elim
theorem le_line {n : Nat} (h : n ≤ 1000) : n ≤ sizeLine := Nat.le_trans h (by rw [sizeLine_eq]; decide)
def wTup (wA : WA) : WE := fun ρ Φ => wA ρ fun rs => datsW rs fun ds => Φ (.d (.tuple ds))
theorem so_tup {K : PySem.W.Frag} (h : SoA K tA wA) : SoE K (tTup tA) (wTup wA) := fun EX G H σ ρ Φ R f Q q =>
  h EX G H σ ρ _ R f _ fun vs G1 H1 rs S1 rvs f1 => by
    obtain ⟨ds, e, hl, f2⟩ := datsW_iff f1
    have dd := dats_dd rvs e
    refine ⟨le_line (by rw [dpLen dd]; exact hl), fun p hp => ?_⟩
    have R1 := R.toGd.step S1
    have S2 := R1.new (p := p) (o := .tup vs) hp
    exact q (.ref p) _ _ (.d (.tuple ds)) (S1.trans S2) (Dd.tup upd_same (dpsMono S2.gg _ _ dd)) f2
theorem me_tup {k : Nat} (h : MA X es tA wA) : ME X (.Tuple es k pos) (tTup tA) (wTup wA) := ⟨pe_tup h.pa, so_tup h.so⟩
def wLst (wA : WA) : WD := fun ρ Φ => wA ρ fun rs => datsW rs Φ
theorem ml_lst (h : MA X es tA wA) : ML X (.List es pos) (tLst tA) (wLst wA) := ⟨pe_lst h.pa, fun EX G H σ ρ Φ R f Q q =>
  h.so EX G H σ ρ _ R f _ fun vs G1 H1 rs S1 rvs f1 => by
    obtain ⟨ds, e, hl, f2⟩ := datsW_iff f1
    have dd := dats_dd rvs e
    refine ⟨le_line (by rw [dpLen dd]; exact hl), fun p hp => ?_⟩
    have R1 := R.toGd.step S1
    have S2 := R1.newOut (p := p) (o := .lst vs) hp
    exact q p vs _ _ _ (S1.trans S2) (S1.fresh hp) (R1.free hp) (R1.notBox hp) upd_same dd f2⟩
/-- a new list that stands still from now on -/
def wFz (w : WD) : WE := fun ρ Φ => w ρ fun ds => Φ (.d (.list ds))
theorem so_fz {K : PySem.W.Frag} {w : WD} (h : SoL K t w) : SoE K t (wFz w) := fun EX G H σ ρ Φ R f Q q =>
  h EX G H σ ρ _ R f _ fun a vs G1 H1 ds S1 ha ga ba h1 dd f1 => by
    have R1 := R.toGd.step S1
    have R2 := R1.still h1 ba ga
    refine q (.ref a) (upd G1 a (.lst vs)) H1 (.d (.list ds)) ⟨S1.st, S1.bx, S1.gg.trans (same_upd_new ga), R2.sub, fun b o e => ?_, R2.ex⟩ (Dd.lst upd_same (dpsMono (same_upd_new ga) _ _ dd)) f1
    by_cases eb : b = a
    · subst eb; exact .inr ha
    · rw [upd_ne eb] at e; exact S1.gn b o e
theorem me_fz {w : WD} (h : ML X e t w) : ME X e t (wFz w) := ⟨h.pe, so_fz h.so⟩

/-! ### operations by values -/
abbrev F2 := W → W → (W → Prop) → Prop
def OpS (K : PySem.W.Frag) (r : R2) (f : F2) : Prop := ∀ (EX : Ext) (G H : Hp) (x y : V) (p q : W) (Φ : W → Prop), Gd K EX G H → Rw K EX G x p → Rw K EX G y q → f p q Φ →
  ∀ Q : VK, (∀ v G' H' c, Step EX G H G' H' → Rw K EX G' v c → Φ c → Q v H') → r x y H Q
def wOp (f : F2) (wa wb : WE) : WE := fun ρ Φ => wa ρ fun x => wb ρ fun y => f x y Φ
theorem so_op {K : PySem.W.Frag} {r : R2} {f : F2} (hf : OpS K r f) (ha : SoE K ta wa) (hb : SoE K tb wb) : SoE K (tOp r ta tb) (wOp f wa wb) := fun EX G H σ ρ Φ R f Q q =>
  ha EX G H σ ρ _ R f _ fun v G1 H1 x S1 rv f1 => hb EX G1 H1 σ ρ _ (R.step S1) f1 _ fun u G2 H2 y S2 ru f2 =>
    hf EX G2 H2 v u x y Φ ((R.step S1).step S2).toGd (rwMono S2.gg (fun _ _ h => h) rv) ru f2 Q fun z G3 H3 c S3 rc f3 => q z G3 H3 c ((S1.trans S2).trans S3) rc f3
/-- one rule a operator: its machine's rule, what it says -/
structure OpM (X : Cx) (f : Value → Value → Sem Value) (r : R2) (g : F2) : Prop where
  op : OpR X f r
  so : OpS X.K r g
theorem me_op {op : Operator} {r : R2} {f : F2} (h : OpM X (binaryOp op) r f) (ha : ME X a ta wa) (hb : ME X b tb wb) : ME X (.BinOp a op b pos) (tOp r ta tb) (wOp f wa wb) := ⟨pe_op h.op ha.pe hb.pe, so_op h.so ha.so hb.so⟩
theorem me_cmp {op : CmpOp} {r : R2} {f : F2} (h : OpM X (compareOp op) r f) (ha : ME X a ta wa) (hb : ME X b tb wb) (hm : behindInMarks op b = false := by first | exact nobehind _ (by decide) (by decide) | rfl) :
    ME X (.Compare a [op] [b] pos) (tOp r ta tb) (wOp f wa wb) := ⟨pe_cmpR h.op ha.pe hb.pe hm, so_op h.so ha.so hb.so⟩
/-- a value that is a bool, as a test -/
def wB (w : WE) : WT := fun ρ Φ => w ρ fun r => match r with
  | .d (.bool k) => Φ k
  | _ => False
theorem boolOf {r : W} {Φ : Bool → Prop} (h : match r with | .d (.bool k) => Φ k | _ => False) : ∃ k, r = .d (.bool k) ∧ Φ k := by
  split at h
  · exact ⟨_, rfl, h⟩
  · exact h.elim
theorem rwBool {K : PySem.W.Frag} {EX : Ext} {G : Hp} {v : V} {k : Bool} (h : Rw K EX G v (.d (.bool k))) : v = .bl k := by
  have h' : Dd K G v (.bool k) := h
  cases h'
  rfl
theorem so_B {K : PySem.W.Frag} (h : SoE K t w) : SoT K (fun σ H Q => t σ H fun x H1 => ∃ c, x = .bl c ∧ Q c H1) (wB w) := fun EX G H σ ρ Φ R f Q q =>
  h EX G H σ ρ _ R f _ fun v G1 H1 r S1 rv f1 => by
    obtain ⟨k, e, f2⟩ := boolOf f1
    subst e
    exact ⟨k, rwBool rv, q k G1 H1 S1 f2⟩
theorem mt_cmp {op : CmpOp} {r : R2} {f : F2} (h : OpM X (compareOp op) r f) (ha : ME X a ta wa) (hb : ME X b tb wb) (hm : behindInMarks op b = false := by first | exact nobehind _ (by decide) (by decide) | rfl) :
    MT X (.Compare a [op] [b] pos) (tTest (tOp r ta tb)) (wB (wOp f wa wb)) := ⟨pt_cmpR h.op ha.pe hb.pe hm, so_B (so_op h.so ha.so hb.so)⟩
theorem mt_val (h : ME X e t w) (he : ∀ whole, isTrue e X.env whole = (do let v ← whole; standAt e.pos; holding [v] (truthy v)) := by intro _; rfl) : MT X e (tB t) (wB w) := ⟨pt_val h.pe he, so_B h.so⟩
def wAnd (u v : WT) : WT := fun ρ Φ => u ρ fun k => if k = true then v ρ Φ else Φ false
def wOr (u v : WT) : WT := fun ρ Φ => u ρ fun k => if k = true then Φ true else v ρ Φ
def wNot (u : WT) : WT := fun ρ Φ => u ρ fun k => Φ (!k)
variable {tt tu : TT} {wt wu : WT} {rest : List Expr}
theorem so_and {K : PySem.W.Frag} (h : SoT K tt wt) (h2 : SoT K tu wu) : SoT K (tAnd tt tu) (wAnd wt wu) := fun EX G H σ ρ Φ R f Q q =>
  h EX G H σ ρ _ R f _ fun k G1 H1 S1 f1 => by
    cases k with
    | true =>
      simp only [if_true] at f1 ⊢
      exact h2 EX G1 H1 σ ρ _ (R.step S1) f1 _ fun j G2 H2 S2 f2 => q j G2 H2 (S1.trans S2) f2
    | false =>
      simp only [Bool.false_eq_true, if_false] at f1 ⊢
      exact q false G1 H1 S1 f1
theorem so_or {K : PySem.W.Frag} (h : SoT K tt wt) (h2 : SoT K tu wu) : SoT K (tOr tt tu) (wOr wt wu) := fun EX G H σ ρ Φ R f Q q =>
  h EX G H σ ρ _ R f _ fun k G1 H1 S1 f1 => by
    cases k with
    | true =>
      simp only [if_true] at f1 ⊢
      exact q true G1 H1 S1 f1
    | false =>
      simp only [Bool.false_eq_true, if_false] at f1 ⊢
      exact h2 EX G1 H1 σ ρ _ (R.step S1) f1 _ fun j G2 H2 S2 f2 => q j G2 H2 (S1.trans S2) f2
theorem mt_w (h : MW X e tt wt) : MT X e tt wt := ⟨h.pw.pt, h.so⟩
theorem mw_and1 (h : MT X a tt wt) : MW X (.BoolOp .And [a] pos) tt wt := ⟨pw_and1 h.pt, h.so⟩
theorem mw_or1 (h : MT X a tt wt) : MW X (.BoolOp .Or [a] pos) tt wt := ⟨pw_or1 h.pt, h.so⟩
theorem mw_and (h : MT X a tt wt) (h2 : MW X (.BoolOp .And (b :: rest) pos) tu wu) : MW X (.BoolOp .And (a :: b :: rest) pos) (tAnd tt tu) (wAnd wt wu) := ⟨pw_and h.pt h2.pw, so_and h.so h2.so⟩
theorem mw_or (h : MT X a tt wt) (h2 : MW X (.BoolOp .Or (b :: rest) pos) tu wu) : MW X (.BoolOp .Or (a :: b :: rest) pos) (tOr tt tu) (wOr wt wu) := ⟨pw_or h.pt h2.pw, so_or h.so h2.so⟩
theorem mt_not (h : MT X a tt wt) : MT X (.UnaryOp .Not a pos) (tNot tt) (wNot wt) := ⟨pt_not h.pt, fun EX G H σ ρ Φ R f Q q => h.so EX G H σ ρ _ R f _ fun k G1 H1 S1 f1 => q (!k) G1 H1 S1 f1⟩
/-- and, or, not as values; all but the last are bools -/
def wAndV (u v : WE) : WE := fun ρ Φ => wB u ρ fun k => if k = true then v ρ Φ else Φ (.d (.bool false))
def wOrV (u v : WE) : WE := fun ρ Φ => wB u ρ fun k => if k = true then Φ (.d (.bool true)) else v ρ Φ
def wNotV (u : WE) : WE := fun ρ Φ => wB u ρ fun k => Φ (.d (.bool (!k)))
theorem me_one {op : BoolOp} (h : ME X a t w) : ME X (.BoolOp op [a] pos) t w := ⟨pe_one h.pe, h.so⟩
theorem me_and (h : ME X a ta wa) (h2 : ME X (.BoolOp .And (b :: rest) pos) tb wb) : ME X (.BoolOp .And (a :: b :: rest) pos) (tAndV ta tb) (wAndV wa wb) := ⟨pe_and h.pe h2.pe, fun EX G H σ ρ Φ R f Q q =>
  so_B h.so EX G H σ ρ _ R f _ fun k G1 H1 S1 f1 => by
    cases k with
    | true =>
      simp only [if_true] at f1 ⊢
      exact h2.so EX G1 H1 σ ρ _ (R.step S1) f1 _ fun v G2 H2 r S2 rv f2 => q v G2 H2 r (S1.trans S2) rv f2
    | false =>
      simp only [Bool.false_eq_true, if_false] at f1 ⊢
      exact q _ G1 H1 (.d (.bool false)) S1 (Dd.bl false) f1⟩
theorem me_or (h : ME X a ta wa) (h2 : ME X (.BoolOp .Or (b :: rest) pos) tb wb) : ME X (.BoolOp .Or (a :: b :: rest) pos) (tOrV ta tb) (wOrV wa wb) := ⟨pe_or h.pe h2.pe, fun EX G H σ ρ Φ R f Q q =>
  so_B h.so EX G H σ ρ _ R f _ fun k G1 H1 S1 f1 => by
    cases k with
    | true =>
      simp only [if_true] at f1 ⊢
      exact q _ G1 H1 (.d (.bool true)) S1 (Dd.bl true) f1
    | false =>
      simp only [Bool.false_eq_true, if_false] at f1 ⊢
      exact h2.so EX G1 H1 σ ρ _ (R.step S1) f1 _ fun v G2 H2 r S2 rv f2 => q v G2 H2 r (S1.trans S2) rv f2⟩
theorem me_not (h : ME X a ta wa) : ME X (.UnaryOp .Not a pos) (tNotV ta) (wNotV wa) := ⟨pe_not h.pe, fun EX G H σ ρ Φ R f Q q =>
  so_B h.so EX G H σ ρ _ R f _ fun k G1 H1 S1 f1 => q _ G1 H1 (.d (.bool (!k))) S1 (Dd.bl (!k)) f1⟩
def wIf (u : WT) (v v' : WE) : WE := fun ρ Φ => u ρ fun k => if k = true then v ρ Φ else v' ρ Φ
theorem me_if (h : MT X c tt wt) (h1 : ME X a ta wa) (h2 : ME X b tb wb) : ME X (.IfExp c a b pos) (tIf tt ta tb) (wIf wt wa wb) := ⟨pe_ifExp h.pt h1.pe h2.pe, fun EX G H σ ρ Φ R f Q q =>
  h.so EX G H σ ρ _ R f _ fun k G1 H1 S1 f1 => by
    cases k with
    | true =>
      simp only [if_true] at f1 ⊢
      exact h1.so EX G1 H1 σ ρ _ (R.step S1) f1 _ fun v G2 H2 r S2 rv f2 => q v G2 H2 r (S1.trans S2) rv f2
    | false =>
      simp only [Bool.false_eq_true, if_false] at f1 ⊢
      exact h2.so EX G1 H1 σ ρ _ (R.step S1) f1 _ fun v G2 H2 r S2 rv f2 => q v G2 H2 r (S1.trans S2) rv f2⟩
end
end Pd
end

section
set_option Elab.async false
set_option linter.all false
set_option maxRecDepth 100000
set_option autoImplicit false
set_option maxHeartbeats 1000000
/-! Pd, operators -/
namespace Pd
open PySem PySem.Spec PyProof.Rows L2

theorem sok_app {x y : Str} (h : SOk x) (k : SOk y) (l : x.length + y.length ≤ sizeLine) : SOk (x ++ y) := by
  refine ⟨?_, ?_⟩
  · have h1 := h.ok
    have h2 := k.ok
    unfold PyData.strOk at h1 h2 ⊢
    show (x.cps ++ y.cps).all _ = true
    rw [Array.all_append, h1, h2]
    rfl
  · show (x.cps ++ y.cps).size ≤ _
    rw [Array.size_append]
    exact l
theorem sok_of_list {x : Str} (h : SOk x) {l : List Nat} (hl : l.length ≤ x.length) (hm : ∀ c ∈ l, c ∈ x.cps.toList) : SOk ⟨l.toArray⟩ := by
  refine ⟨?_, ?_⟩
  · have h1 := h.ok
    unfold PyData.strOk at h1 ⊢
    rw [← Array.all_toList, List.all_eq_true] at h1 ⊢
    intro c hc
    exact h1 c (hm c (by simpa using hc))
  · show l.toArray.size ≤ _
    rw [List.size_toArray]
    exact Nat.le_trans hl h.len
theorem sok_cut {x : Str} (h : SOk x) (lo hi : Option Int) : SOk (cutS x lo hi) := by
  refine sok_of_list h ?_ fun c hc => ?_
  · have := cutS_length x lo hi
    exact (by simpa [cutS, Str.length] using this)
  · exact List.mem_of_mem_drop (List.mem_of_mem_take hc)
theorem sok_one {x : Str} (h : SOk x) {c : Nat} (hc : c ∈ x.cps.toList) : SOk ⟨#[c]⟩ := by
  have hl : 1 ≤ x.length := by
    show 1 ≤ x.cps.size
    have : x.cps.toList ≠ [] := fun e => by rw [e] at hc; cases hc
    have := List.length_pos_iff.mpr this
    rw [Array.length_toList] at this
    exact this
  exact sok_of_list (l := [c]) h (by simpa using hl) (fun d hd => by
    have : d = c := by simpa using hd
    rw [this]; exact hc)

section
variable {K : PySem.W.Frag} {EX : Ext} {G H : Hp} {v : V}
theorem rwInt {i : Int} (h : Rw K EX G v (.d (.int i))) : v = .int i := by
  have h' : Dd K G v (.int i) := h
  cases h'
  rfl
theorem rwNon (h : Rw K EX G v (.d .none)) : v = .non := by
  have h' : Dd K G v .none := h
  cases h'
  rfl
theorem rwStr {x : Str} (h : Rw K EX G v (.d (.str x))) : v = .str x ∧ SOk x := by
  have h' : Dd K G v (.str x) := h
  cases h' with
  | str _ q => exact ⟨rfl, q⟩
theorem rwTup {ds : List D} (h : Rw K EX G v (.d (.tuple ds))) : ∃ a xs, v = .ref a ∧ G a = some (.tup xs) ∧ DdAll K G xs ds := by
  have h' : Dd K G v (.tuple ds) := h
  cases h' with
  | tup g q => exact ⟨_, _, rfl, g, q⟩
theorem rwLst {ds : List D} (h : Rw K EX G v (.d (.list ds))) : ∃ a xs, v = .ref a ∧ G a = some (.lst xs) ∧ DdAll K G xs ds := by
  have h' : Dd K G v (.list ds) := h
  cases h' with
  | lst g q => exact ⟨_, _, rfl, g, q⟩
theorem rwD {d : D} (h : Rw K EX G v (.d d)) : Dd K G v d := h
end

/-! ### ints -/
def oI (C : Int → Int → Prop) (g : Int → Int → Int) : F2 := fun p q Φ => match p, q with
  | .d (.int i), .d (.int j) => C i j ∧ Φ (.d (.int (g i j)))
  | _, _ => False
def oI0 (g : Int → Int → Int) : F2 := fun p q Φ => match p, q with
  | .d (.int i), .d (.int j) => Φ (.d (.int (g i j)))
  | _, _ => False
theorem os_I {K : PySem.W.Frag} {C : Int → Int → Prop} {g : Int → Int → Int} : OpS K (rI C fun i j => .int (g i j)) (oI C g) := fun EX G H x y p q Φ R hp hq f Q k => by
  unfold oI at f
  split at f
  · obtain ⟨hc, f⟩ := f
    exact ⟨_, _, rwInt hp, rwInt hq, hc, k _ G H (.d (.int _)) R.refl (Dd.int _) f⟩
  · exact f.elim
theorem os_I0 {K : PySem.W.Frag} {g : Int → Int → Int} : OpS K (rI0 fun i j => .int (g i j)) (oI0 g) := fun EX G H x y p q Φ R hp hq f Q k => by
  unfold oI0 at f
  split at f
  · exact ⟨_, _, rwInt hp, rwInt hq, k _ G H (.d (.int _)) R.refl (Dd.int _) f⟩
  · exact f.elim
/-! ### + -/
def oAdd : F2 := fun p q Φ => match p, q with
  | .d (.int i), .d (.int j) => Φ (.d (.int (i + j)))
  | .d (.str x), .d (.str y) => x.length + y.length ≤ sizeLine ∧ Φ (.d (.str (x ++ y)))
  | .d (.tuple x), .d (.tuple y) => x.length + y.length ≤ sizeLine ∧ Φ (.d (.tuple (x ++ y)))
  | .d (.list x), .d (.list y) => x.length + y.length ≤ sizeLine ∧ Φ (.d (.list (x ++ y)))
  | _, _ => False
def rAddM (K : PySem.W.Frag) : R2 := fun x y H Q => (rI0 (fun i j => .int (i + j)) x y H Q) ∨ (∃ i j, x = .str i ∧ y = .str j ∧ i.length + j.length ≤ sizeLine ∧ Q (.str (i ++ j)) H) ∨ (rCatA K x y H Q) ∨ rCat x y H Q
section
variable {X : Cx}
theorem om_add : OpM X (binaryOp .Add) (rAddM X.K) oAdd := by
  refine ⟨op_add.or (op_add_str.or (op_catA.or op_cat)), fun EX G H x y p q Φ R hp hq f Q k => ?_⟩
  unfold oAdd at f
  split at f
  · exact .inl ⟨_, _, rwInt hp, rwInt hq, k _ G H (.d (.int _)) R.refl (Dd.int _) f⟩
  · obtain ⟨e1, k1⟩ := rwStr hp
    obtain ⟨e2, k2⟩ := rwStr hq
    exact .inr (.inl ⟨_, _, e1, e2, f.1, k _ G H (.d (.str _)) R.refl (Dd.str _ (sok_app k1 k2 f.1)) f.2⟩)
  · obtain ⟨a, xs, e1, g1, d1⟩ := rwTup hp
    obtain ⟨b, ys, e2, g2, d2⟩ := rwTup hq
    refine .inr (.inr (.inl ⟨a, b, xs, ys, e1, e2, .inl (.inl (R.sub _ _ g1)), .inl (.inl (R.sub _ _ g2)), by rw [dpLen d1, dpLen d2]; exact f.1, fun h => ?_, fun h h' => ?_, fun h h' r hr => ?_⟩))
    · subst h
      cases d1
      exact k _ G H _ R.refl (by rw [← e2]; exact hq) f.2
    · subst h'
      cases d2
      rw [List.append_nil] at f
      exact k _ G H _ R.refl (by rw [← e1]; exact hp) f.2
    · have S := R.new (p := r) (o := .tup (xs ++ ys)) hr
      exact k _ _ _ (.d (.tuple _)) S (Dd.tup upd_same (dpApp (dpsMono S.gg _ _ d1) (dpsMono S.gg _ _ d2))) f.2
  · obtain ⟨a, xs, e1, g1, d1⟩ := rwLst hp
    obtain ⟨b, ys, e2, g2, d2⟩ := rwLst hq
    refine .inr (.inr (.inr ⟨a, b, xs, ys, e1, e2, R.sub _ _ g1, R.sub _ _ g2, by rw [dpLen d1, dpLen d2]; exact f.1, fun r hr => ?_⟩))
    have S := R.new (p := r) (o := .lst (xs ++ ys)) hr
    exact k _ _ _ (.d (.list _)) S (Dd.lst upd_same (dpApp (dpsMono S.gg _ _ d1) (dpsMono S.gg _ _ d2))) f.2
  · exact f.elim
theorem om_sub : OpM X (binaryOp .Sub) (rI0 fun i j => .int (i - j)) (oI0 fun i j => i - j) := ⟨op_sub, os_I0⟩
/-- times: ints; a list so many times -/
def oMul : F2 := fun p q Φ => match p, q with
  | .d (.int i), .d (.int j) => CMul i j ∧ Φ (.d (.int (i * j)))
  | .d (.list x), .d (.int j) => (-(2 ^ 63) ≤ j ∧ j < 2 ^ 63 ∧ x.length * j.toNat ≤ sizeLine) ∧ Φ (.d (.list (List.replicate j.toNat x).flatten))
  | _, _ => False
theorem dpRep {K : PySem.W.Frag} {G : Hp} {vs : List V} {ds : List D} (h : DdAll K G vs ds) : ∀ n : Nat, DdAll K G (List.replicate n vs).flatten (List.replicate n ds).flatten
  | 0 => .nil
  | n + 1 => by
    rw [List.replicate_succ, List.replicate_succ, List.flatten_cons, List.flatten_cons]
    exact dpApp h (dpRep h n)
theorem om_mul : OpM X (binaryOp .Mult) (fun x y H Q => rI CMul (fun i j => .int (i * j)) x y H Q ∨ rRep x y H Q) oMul := by
  refine ⟨op_mul.or op_rep, fun EX G H x y p q Φ R hp hq f Q k => ?_⟩
  unfold oMul at f
  split at f
  · exact .inl ⟨_, _, rwInt hp, rwInt hq, f.1, k _ G H (.d (.int _)) R.refl (Dd.int _) f.2⟩
  · rename_i xl j
    obtain ⟨a, xs, e1, g1, d1⟩ := rwLst hp
    refine .inr ⟨a, j, xs, e1, rwInt hq, R.sub _ _ g1, f.1.1, f.1.2.1, by rw [dpLen d1]; exact f.1.2.2, fun r hr => ?_⟩
    have S := R.new (p := r) (o := .lst (List.replicate j.toNat xs).flatten) hr
    exact k _ _ _ (.d (.list _)) S (Dd.lst upd_same (dpRep (dpsMono S.gg _ _ d1) _)) f.2
  · exact f.elim
theorem om_mod : OpM X (binaryOp .Mod) (rI (fun _ j => 0 < j) fun i j => .int (i % j)) (oI (fun _ j => 0 < j) fun i j => i % j) := ⟨op_mod, os_I⟩
theorem om_div : OpM X (binaryOp .FloorDiv) (rI CDiv fun i j => .int (i / j)) (oI CDiv fun i j => i / j) := ⟨op_fdiv, os_I⟩
theorem om_pow : OpM X (binaryOp .Pow) (rI CPow fun i j => .int (i ^ j.toNat)) (oI CPow fun i j => i ^ j.toNat) := ⟨op_pow, os_I⟩

/-! ### comparisons -/
def oLt (g : Int → Int → Bool) (k : List Nat → List Nat → Bool) : F2 := fun p q Φ => match p, q with
  | .d (.int i), .d (.int j) => Φ (.d (.bool (g i j)))
  | .d (.str x), .d (.str y) => Φ (.d (.bool (k x.cps.toList y.cps.toList)))
  | _, _ => False
def rLtM (g : Int → Int → Bool) (k : List Nat → List Nat → Bool) : R2 := fun x y H Q => rI0 (fun i j => .bl (g i j)) x y H Q ∨ ∃ i j, x = .str i ∧ y = .str j ∧ Q (.bl (k i.cps.toList j.cps.toList)) H
theorem os_lt {K : PySem.W.Frag} {g : Int → Int → Bool} {k : List Nat → List Nat → Bool} : OpS K (rLtM g k) (oLt g k) := fun EX G H x y p q Φ R hp hq f Q q0 => by
  unfold oLt at f
  split at f
  · exact .inl ⟨_, _, rwInt hp, rwInt hq, q0 _ G H (.d (.bool _)) R.refl (Dd.bl _) f⟩
  · exact .inr ⟨_, _, (rwStr hp).1, (rwStr hq).1, q0 _ G H (.d (.bool _)) R.refl (Dd.bl _) f⟩
  · exact f.elim
abbrev ltL (a b : List Nat) : Bool := decide (a < b)
abbrev gtL (a b : List Nat) : Bool := decide (b < a)
abbrev leL (a b : List Nat) : Bool := !decide (b < a)
theorem om_lt : OpM X (compareOp .Lt) (rLtM (fun i j => decide (i < j)) ltL) (oLt (fun i j => decide (i < j)) ltL) := ⟨op_lt.or op_lt_str, os_lt⟩
theorem om_gt : OpM X (compareOp .Gt) (rLtM (fun i j => decide (j < i)) gtL) (oLt (fun i j => decide (j < i)) gtL) := ⟨op_gt.or op_gt_str, os_lt⟩
theorem om_le : OpM X (compareOp .LtE) (rLtM (fun i j => decide (i ≤ j)) leL) (oLt (fun i j => decide (i ≤ j)) leL) := ⟨op_le.or op_le_str, os_lt⟩
theorem om_ge : OpM X (compareOp .GtE) (rI0 fun i j => .bl (decide (j ≤ i))) (fun p q Φ => match p, q with | .d (.int i), .d (.int j) => Φ (.d (.bool (decide (j ≤ i)))) | _, _ => False) :=
  ⟨op_ge, fun EX G H x y p q Φ R hp hq f Q k => by
    split at f
    · exact ⟨_, _, rwInt hp, rwInt hq, k _ G H (.d (.bool _)) R.refl (Dd.bl _) f⟩
    · exact f.elim⟩
/-- == of data -/
def oEq (neg : Bool) : F2 := fun p q Φ => match p, q with
  | .d x, .d y => min x.depth y.depth ≤ 64 ∧ Φ (.d (.bool (neg != PyData.eqv x y)))
  | _, _ => False
def rEqM (K : PySem.W.Frag) (neg : Bool) : R2 := fun x y H Q => ∃ d e, Dp K H x d ∧ Dp K H y e ∧ d.canLay0 = true ∧ e.canLay0 = true ∧ min d.depth e.depth ≤ 64 ∧ Q (.bl (neg != PyData.eqv d e)) H
theorem op_eqM (hu : X.A.units + 64 < cLine) : OpR X (compareOp .Eq) (rEqM X.K false) := by
  intro pins s σ H x y v u Q I rx ry h
  obtain ⟨d, e, hd, he, sd, se, m, q⟩ := h
  obtain ⟨as, r1⟩ := Dp.reads I d x v hd rx
  obtain ⟨bs, r2⟩ := Dp.reads I e y u he ry
  refine SeqAt.compareEq_reads r1 r2 sd se (by omega) ⟨.bl _, H, I, rfl, ?_⟩
  simpa using q
theorem op_neM (hu : X.A.units + 64 < cLine) : OpR X (compareOp .NotEq) (rEqM X.K true) := by
  intro pins s σ H x y v u Q I rx ry h
  obtain ⟨d, e, hd, he, sd, se, m, q⟩ := h
  obtain ⟨as, r1⟩ := Dp.reads I d x v hd rx
  obtain ⟨bs, r2⟩ := Dp.reads I e y u he ry
  refine SeqAt.compareNe_reads r1 r2 sd se (by omega) ⟨.bl _, H, I, rfl, ?_⟩
  simpa using q
theorem os_eq {K : PySem.W.Frag} {neg : Bool} : OpS K (rEqM K neg) (oEq neg) := fun EX G H x y p q Φ R hp hq f Q k => by
  unfold oEq at f
  split at f
  · exact ⟨_, _, ddDp _ _ (dpMono R.sub _ _ hp), ddDp _ _ (dpMono R.sub _ _ hq), ddLay _ _ hp, ddLay _ _ hq, f.1, k _ G H (.d (.bool _)) R.refl (Dd.bl _) f.2⟩
  · exact f.elim
theorem om_eq {k : Nat} (hr : Room k X.A) : OpM X (compareOp .Eq) (rEqM X.K false) (oEq false) := ⟨op_eqM hr.units, os_eq⟩
theorem om_ne {k : Nat} (hr : Room k X.A) : OpM X (compareOp .NotEq) (rEqM X.K true) (oEq true) := ⟨op_neM hr.units, os_eq⟩
/-- the key of a dict -/
def keyD : D → Option Key
  | .int i => some (.inl i)
  | .str x => some (.inr x)
  | _ => none
def keysD : List D → Option (List Key)
  | [] => some []
  | x :: r => match keyD x, keysD r with
    | some k, some ks => some (k :: ks)
    | _, _ => none
theorem keyD_v {K : PySem.W.Frag} {G : Hp} {v : V} {d : D} {k : Key} (h : Dd K G v d) (e : keyD d = some k) : v = kV k := by
  cases h <;> cases e <;> rfl
theorem keysD_v {K : PySem.W.Frag} {G : Hp} : ∀ {vs : List V} {ds : List D} {ks : List Key}, DdAll K G vs ds → keysD ds = some ks → vs = ks.map kV
  | _, [], ks, h, e => by
    cases h
    cases e
    rfl
  | _, d :: ds, ks, h, e => by
    cases h with
    | cons h1 h2 =>
      unfold keysD at e
      split at e
      · cases e
        rw [List.map_cons, keyD_v h1 (by assumption), keysD_v h2 (by assumption)]
      · cases e
section
variable {κ : Type} [DecidableEq κ]
def valD (kvs : List (κ × D)) (k : κ) : Option D := (kvs.find? fun kv => decide (kv.1 = k)).map (·.2)
def putD' (kvs : List (κ × D)) (k : κ) (v : D) : List (κ × D) := if (kvs.any fun kv => decide (kv.1 = k)) = true then kvs.map fun kv => if kv.1 = k then (kv.1, v) else kv else kvs ++ [(k, v)]
def dropD (kvs : List (κ × D)) (k : κ) : List (κ × D) := kvs.filter fun kv => decide (kv.1 ≠ k)
theorem kv_val {K : PySem.W.Frag} {G : Hp} (k : κ) : ∀ {vs : List (κ × V)} {kvs : List (κ × D)}, KvD K G vs kvs → (valV vs k = none ∧ valD kvs k = none) ∨ ∃ v d, valV vs k = some v ∧ valD kvs k = some d ∧ Dd K G v d
  | _, _, .nil => .inl ⟨rfl, rfl⟩
  | _, _, @Paired.cons _ _ _ p q vs kvs h t => by
    by_cases e : q.1 = k
    · refine .inr ⟨p.2, q.2, ?_, ?_, h.2⟩
      · simp [valV, h.1, e]
      · simp [valD, e]
    · have e' : ¬ p.1 = k := by rw [h.1]; exact e
      rcases kv_val k t with ⟨q1, q2⟩ | ⟨v, d, q1, q2, q3⟩
      · exact .inl ⟨by simpa [valV, e'] using q1, by simpa [valD, e] using q2⟩
      · exact .inr ⟨v, d, by simpa [valV, e'] using q1, by simpa [valD, e] using q2, q3⟩
theorem kv_len {K : PySem.W.Frag} {G : Hp} {vs : List (κ × V)} {kvs : List (κ × D)} (h : KvD K G vs kvs) : vs.length = kvs.length := Paired.length h
theorem kv_any {K : PySem.W.Frag} {G : Hp} (k : κ) : ∀ {vs : List (κ × V)} {kvs : List (κ × D)}, KvD K G vs kvs → (vs.any fun kv => decide (kv.1 = k)) = kvs.any fun kv => decide (kv.1 = k)
  | _, _, .nil => rfl
  | _, _, .cons h t => by rw [List.any_cons, List.any_cons, h.1, kv_any k t]
theorem kv_app {K : PySem.W.Frag} {G : Hp} {k : κ} {v : V} {d : D} (hd : Dd K G v d) : ∀ {vs : List (κ × V)} {kvs : List (κ × D)}, KvD K G vs kvs → KvD K G (vs ++ [(k, v)]) (kvs ++ [(k, d)])
  | _, _, .nil => .cons ⟨rfl, hd⟩ .nil
  | _, _, .cons h t => .cons h (kv_app hd t)
theorem kv_repl {K : PySem.W.Frag} {G : Hp} {k : κ} {v : V} {d : D} (hd : Dd K G v d) : ∀ {vs : List (κ × V)} {kvs : List (κ × D)}, KvD K G vs kvs →
    KvD K G (vs.map fun kv => if kv.1 = k then (kv.1, v) else kv) (kvs.map fun kv => if kv.1 = k then (kv.1, d) else kv)
  | _, _, .nil => .nil
  | _, _, @Paired.cons _ _ _ p q vs kvs h t => by
    refine .cons ?_ (kv_repl hd t)
    dsimp only
    by_cases e : q.1 = k
    · rw [if_pos (show p.1 = k by rw [h.1]; exact e), if_pos e]
      exact ⟨h.1, hd⟩
    · rw [if_neg (show ¬ p.1 = k by rw [h.1]; exact e), if_neg e]
      exact h
theorem kv_put {K : PySem.W.Frag} {G : Hp} {k : κ} {v : V} {d : D} {vs : List (κ × V)} {kvs : List (κ × D)} (h : KvD K G vs kvs) (hd : Dd K G v d) : KvD K G (putK vs k v) (putD' kvs k d) := by
  unfold putK putD'
  rw [kv_any k h]
  split
  · exact kv_repl hd h
  · exact kv_app hd h
theorem kv_drop {K : PySem.W.Frag} {G : Hp} (k : κ) : ∀ {vs : List (κ × V)} {kvs : List (κ × D)}, KvD K G vs kvs → KvD K G (dropK vs k) (dropD kvs k)
  | _, _, .nil => .nil
  | _, _, @Paired.cons _ _ _ p q vs kvs h t => by
    unfold dropK dropD
    rw [List.filter_cons, List.filter_cons, h.1]
    split
    · exact .cons h (kv_drop k t)
    · exact kv_drop k t
end
/-- in -/
def oIn (neg : Bool) : F2 := fun p q Φ => match p, q with
  | .d (.str x), .d (.str y) => Φ (.d (.bool (neg != (!(Builtin.Str.occurrences y x 0 y.length 1).isEmpty))))
  | .d x, .d (.list ys) => min (PyData.depthAll ys) x.depth ≤ 63 ∧ Φ (.d (.bool (neg != ys.any fun y => PyData.eqv y x)))
  | .d x, .d (.tuple ys) => min (PyData.depthAll ys) x.depth ≤ 63 ∧ Φ (.d (.bool (neg != ys.any fun y => PyData.eqv y x)))
  | .d x, .dk kvs => match keyD x with
    | some k => Φ (.d (.bool (neg != (valD kvs k).isSome)))
    | none => False
  | .d (.tuple x), .dt kvs => match keysD x with
    | some k => Φ (.d (.bool (neg != (valD kvs k).isSome)))
    | none => False
  | _, _ => False
def rInM (K : PySem.W.Frag) (neg : Bool) : R2 := fun x y H Q =>
  (∃ i j, x = .str i ∧ y = .str j ∧ Q (.bl (neg != (!(Builtin.Str.occurrences j i 0 j.length 1).isEmpty))) H) ∨
  (∃ d ds, Dp K H x d ∧ (Dp K H y (.list ds) ∨ Dp K H y (.tuple ds)) ∧ d.canLay0 = true ∧ PyData.canLayAll0 ds = true ∧ min (PyData.depthAll ds) d.depth ≤ 63 ∧ Q (.bl (neg != ds.any fun z => PyData.eqv z d)) H) ∨
  (∃ a o, y = .ref a ∧ DGet H a x o ∧ Q (.bl (neg != o.isSome)) H)
theorem op_inM (hu : X.A.units + 64 < cLine) : OpR X (compareOp .In) (rInM X.K false) := by
  intro pins s σ H x y v u Q I rx ry h
  rcases h with ⟨i, j, e1, e2, q⟩ | ⟨d, ds, hd, he, sd, se, m, q⟩ | ⟨a, o, e, g, q⟩
  · exact op_in_str pins s σ H x y v u Q I rx ry ⟨i, j, e1, e2, by simpa using q⟩
  · obtain ⟨as, r1⟩ := Dp.reads I d x v hd rx
    rcases he with he | he
    · obtain ⟨bs, r2⟩ := Dp.reads I (.list ds) y u he ry
      exact SeqAt.in_list_reads r2 r1 se sd (by omega) ⟨.bl _, H, I, rfl, by simpa using q⟩
    · obtain ⟨bs, r2⟩ := Dp.reads I (.tuple ds) y u he ry
      exact SeqAt.in_tuple_reads r2 r1 se sd (by omega) ⟨.bl _, H, I, rfl, by simpa using q⟩
  · subst e
    cases ry
    exact d_in (by omega) I g rx fun s' I' => ⟨.bl _, H, I', rfl, by simpa using q⟩
theorem op_notInM (hu : X.A.units + 64 < cLine) : OpR X (compareOp .NotIn) (rInM X.K true) := by
  intro pins s σ H x y v u Q I rx ry h
  rcases h with ⟨i, j, e1, e2, q⟩ | ⟨d, ds, hd, he, sd, se, m, q⟩ | ⟨a, o, e, g, q⟩
  · exact L2.op_notin_str pins s σ H x y v u Q I rx ry ⟨i, j, e1, e2, by simpa using q⟩
  · obtain ⟨as, r1⟩ := Dp.reads I d x v hd rx
    rcases he with he | he
    · obtain ⟨bs, r2⟩ := Dp.reads I (.list ds) y u he ry
      exact SeqAt.notIn_list_reads r2 r1 se sd (by omega) ⟨.bl _, H, I, rfl, by simpa using q⟩
    · obtain ⟨bs, r2⟩ := Dp.reads I (.tuple ds) y u he ry
      exact SeqAt.notIn_tuple_reads r2 r1 se sd (by omega) ⟨.bl _, H, I, rfl, by simpa using q⟩
  · subst e
    cases ry
    exact d_notIn (by omega) I g rx fun s' I' => ⟨.bl _, H, I', rfl, by simpa using q⟩
theorem os_in {K : PySem.W.Frag} {neg : Bool} : OpS K (rInM K neg) (oIn neg) := fun EX G H x y p q Φ R hp hq f Q k => by
  have lay : ∀ {v : V} {ds : List D}, Dd K G v (.list ds) → PyData.canLayAll0 ds = true := fun h => by
    cases h with
    | lst _ q => exact ddsLay _ _ q
  have layT : ∀ {v : V} {ds : List D}, Dd K G v (.tuple ds) → PyData.canLayAll0 ds = true := fun h => by
    cases h with
    | tup _ q => exact ddsLay _ _ q
  unfold oIn at f
  split at f
  · exact .inl ⟨_, _, (rwStr hp).1, (rwStr hq).1, k _ G H (.d (.bool _)) R.refl (Dd.bl _) f⟩
  · exact .inr (.inl ⟨_, _, ddDp _ _ (dpMono R.sub _ _ hp), .inl (ddDp _ _ (dpMono R.sub _ _ hq)), ddLay _ _ hp, lay hq, f.1, k _ G H (.d (.bool _)) R.refl (Dd.bl _) f.2⟩)
  · exact .inr (.inl ⟨_, _, ddDp _ _ (dpMono R.sub _ _ hp), .inr (ddDp _ _ (dpMono R.sub _ _ hq)), ddLay _ _ hp, layT hq, f.1, k _ G H (.d (.bool _)) R.refl (Dd.bl _) f.2⟩)
  · rename_i kvs
    split at f
    · rename_i key hk
      obtain ⟨a, vs, e, g, kv⟩ := hq
      have ev := keyD_v hp hk
      subst ev
      refine .inr (.inr ⟨a, valV vs key, e, DGet.k (R.sub _ _ g), ?_⟩)
      have hs : (valV vs key).isSome = (valD kvs key).isSome := by
        rcases kv_val key kv with ⟨q1, q2⟩ | ⟨_, _, q1, q2, _⟩ <;> rw [q1, q2] <;> rfl
      rw [hs]
      exact k _ G H (.d (.bool _)) R.refl (Dd.bl _) f
    · exact f.elim
  · rename_i kvs
    split at f
    · rename_i key hk
      obtain ⟨a, vs, e, g, kv⟩ := hq
      obtain ⟨b, xs, e1, g1, d1⟩ := rwTup hp
      subst e1
      have ev := keysD_v d1 hk
      subst ev
      refine .inr (.inr ⟨a, valV vs key, e, DGet.t (R.sub _ _ g) (R.sub _ _ g1), ?_⟩)
      have hs : (valV vs key).isSome = (valD kvs key).isSome := by
        rcases kv_val key kv with ⟨q1, q2⟩ | ⟨_, _, q1, q2, _⟩ <;> rw [q1, q2] <;> rfl
      rw [hs]
      exact k _ G H (.d (.bool _)) R.refl (Dd.bl _) f
    · exact f.elim
  · exact f.elim
theorem om_in {k : Nat} (hr : Room k X.A) : OpM X (compareOp .In) (rInM X.K false) (oIn false) := ⟨op_inM hr.units, os_in⟩
theorem om_notin {k : Nat} (hr : Room k X.A) : OpM X (compareOp .NotIn) (rInM X.K true) (oIn true) := ⟨op_notInM hr.units, os_in⟩
/-- is: of None, of bools -/
def oIs (neg : Bool) : F2 := fun p q Φ => match p, q with
  | .d (.bool x), .d (.bool y) => Φ (.d (.bool (neg != decide (x = y))))
  | .d .none, .d .none => Φ (.d (.bool (neg != true)))
  | .d _, .d .none => Φ (.d (.bool (neg != false)))
  | _, _ => False
def rIsM (neg : Bool) : R2 := fun x y H Q => (y = .non ∧ Q (.bl (neg != decide (x = .non))) H) ∨ ∃ a b : Bool, x = .bl a ∧ y = .bl b ∧ Q (.bl (neg != decide (a = b))) H
theorem op_isM : OpR X (compareOp .Is) (rIsM false) := by
  intro pins s σ H x y v u Q I rx ry h
  rcases h with ⟨e, q⟩ | ⟨a, b, e1, e2, q⟩
  · exact op_isN pins s σ H x y v u Q I rx ry ⟨e, by simpa using q⟩
  · exact op_isBl pins s σ H x y v u Q I rx ry ⟨a, b, e1, e2, by simpa using q⟩
theorem op_isNotM : OpR X (compareOp .IsNot) (rIsM true) := by
  intro pins s σ H x y v u Q I rx ry h
  rcases h with ⟨e, q⟩ | ⟨a, b, e1, e2, q⟩
  · exact op_notN pins s σ H x y v u Q I rx ry ⟨e, by simpa using q⟩
  · exact op_notBl pins s σ H x y v u Q I rx ry ⟨a, b, e1, e2, by simpa using q⟩
theorem os_is {K : PySem.W.Frag} {neg : Bool} : OpS K (rIsM neg) (oIs neg) := fun EX G H x y p q Φ R hp hq f Q k => by
  unfold oIs at f
  split at f
  · exact .inr ⟨_, _, rwBool hp, rwBool hq, k _ G H (.d (.bool _)) R.refl (Dd.bl _) f⟩
  · refine .inl ⟨rwNon hq, ?_⟩
    rw [rwNon hp]
    exact k _ G H (.d (.bool _)) R.refl (Dd.bl _) (by simpa using f)
  · rename_i hb d hd
    refine .inl ⟨rwNon hq, ?_⟩
    have hn : decide (x = V.non) = false := by
      refine decide_eq_false fun e => ?_
      have hp' : Dd K G x d := hp
      subst e
      cases hp'
      simp at hd
    rw [hn]
    exact k _ G H (.d (.bool _)) R.refl (Dd.bl _) f
  · exact f.elim
theorem om_is : OpM X (compareOp .Is) (rIsM false) (oIs false) := ⟨op_isM, os_is⟩
theorem om_isnot : OpM X (compareOp .IsNot) (rIsM true) (oIs true) := ⟨op_isNotM, os_is⟩
end
end Pd
end

section
set_option Elab.async false
set_option linter.all false
set_option maxRecDepth 100000
set_option autoImplicit false
set_option maxHeartbeats 1000000
/-! Pd, subscripts, slices, calls of built-ins -/
namespace Pd
open PySem PySem.Spec PyProof.Rows L2

/-! ### subscripts -/
theorem atI_dd {K : PySem.W.Frag} {G : Hp} {vs : List V} {ds : List D} {i : Int} {d : D} (h : DdAll K G vs ds) (e : atI ds i = some d) : ∃ v, atI vs i = some v ∧ Dd K G v d := by
  unfold atI at e ⊢
  rw [dpLen h]
  cases q : ixN ds.length i with
  | none => rw [q] at e; cases e
  | some j =>
    rw [q] at e
    obtain ⟨v, h1, h2⟩ := dpGet h (show ds[j]? = some d from e)
    exact ⟨v, h1, h2⟩
theorem atI_map {α β : Type} {f : α → β} {xs : List α} {i : Int} {x : α} (e : atI xs i = some x) : atI (xs.map f) i = some (f x) := by
  unfold atI at e ⊢
  rw [List.length_map]
  cases q : ixN xs.length i with
  | none => rw [q] at e; cases e
  | some j =>
    rw [q] at e
    show (xs.map f)[j]? = _
    rw [List.getElem?_map, show xs[j]? = some x from e]
    rfl
def oIx : F2 := fun p q Φ => match p, q with
  | .d (.list ds), .d (.int i) => (match atI ds i with
    | some d => Φ (.d d)
    | none => False)
  | .d (.tuple ds), .d (.int i) => (match atI ds i with
    | some d => Φ (.d d)
    | none => False)
  | .d (.str x), .d (.int i) => (match atI x.cps.toList i with
    | some c => Φ (.d (.str ⟨#[c]⟩))
    | none => False)
  | .sq _ ns, .d (.int i) => (match atI ns i with
    | some n => Φ (.d (.int n))
    | none => False)
  | .p _, .d (.int i) => (i = 0 ∨ i = 1 ∨ i = 2) ∧ ∀ n : Int, Φ (.d (.int n))
  | _, _ => False
theorem ScrAt.seqS {K : PySem.W.Frag} {H : Hp} {b : Addr} {ns : List Int} (h : ScrAt K H b ns) : SqL K H b (ns.map V.int) := h.seq
theorem os_ix {K : PySem.W.Frag} : OpS K (rIx K) oIx := fun EX G H x y p q Φ R hp hq f Q k => by
  unfold oIx at f
  split at f
  · split at f
    · rename_i d e
      obtain ⟨a, vs, e1, g, dd⟩ := rwLst hp
      obtain ⟨v, e2, dv⟩ := atI_dd dd e
      exact .inl ⟨a, vs, _, v, e1, rwInt hq, .inl (.inl (R.sub _ _ g)), e2, k v G H (.d d) R.refl dv f⟩
    · exact f.elim
  · split at f
    · rename_i d e
      obtain ⟨a, vs, e1, g, dd⟩ := rwTup hp
      obtain ⟨v, e2, dv⟩ := atI_dd dd e
      exact .inr (.inl ⟨a, vs, _, v, e1, rwInt hq, .inl (.inl (R.sub _ _ g)), e2, k v G H (.d d) R.refl dv f⟩)
    · exact f.elim
  · split at f
    · rename_i c e
      obtain ⟨e1, so⟩ := rwStr hp
      refine .inr (.inr ⟨_, _, c, e1, rwInt hq, so.len, e, k _ G H (.d (.str _)) R.refl (Dd.str _ (sok_one so ?_)) f⟩)
      obtain ⟨j, _, h2, _⟩ := atI_get e
      exact List.mem_of_getElem? h2
    · exact f.elim
  · split at f
    · rename_i n e
      obtain ⟨e1, ex⟩ := hp
      exact .inl ⟨_, _, _, .int n, e1, rwInt hq, (R.sc _ _ ex).seqS, atI_map e, k _ G H (.d (.int n)) R.refl (Dd.int n) f⟩
    · exact f.elim
  · rename_i a i
    obtain ⟨e1, ex⟩ := hp
    obtain ⟨n0, n1, n2, hb⟩ := R.bx _ ex
    obtain ⟨hi, f⟩ := f
    rcases hi with rfl | rfl | rfl
    · exact .inl ⟨a, _, _, .int n0, e1, rwInt hq, .inl (.inl hb), rfl, k _ G H (.d (.int n0)) R.refl (Dd.int n0) (f n0)⟩
    · exact .inl ⟨a, _, _, .int n1, e1, rwInt hq, .inl (.inl hb), rfl, k _ G H (.d (.int n1)) R.refl (Dd.int n1) (f n1)⟩
    · exact .inl ⟨a, _, _, .int n2, e1, rwInt hq, .inl (.inl hb), rfl, k _ G H (.d (.int n2)) R.refl (Dd.int n2) (f n2)⟩
  · exact f.elim
section
variable {X : Cx} {e a b o i : Expr} {es : List Expr} {t ta tb : TE} {tA : TA} {w wa wb : WE} {wA : WA} {pos : Pos}
theorem me_ix (ha : ME X a ta wa) (hb : ME X b tb wb) (hs : PlainIx b := by exact fun _ _ => rfl) : ME X (.Subscript a b pos) (tOp (rIx X.K) ta tb) (wOp oIx wa wb) := ⟨pe_ix ix_seq ha.pe hb.pe hs, so_op os_ix ha.so hb.so⟩
/-- d[k] of a dict -/
def oDGet : F2 := fun p q Φ => match p, q with
  | .dk kvs, .d x => (match keyD x with
    | some k => (match valD kvs k with
      | some d => Φ (.d d)
      | none => False)
    | none => False)
  | .dt kvs, .d (.tuple x) => (match keysD x with
    | some k => (match valD kvs k with
      | some d => Φ (.d d)
      | none => False)
    | none => False)
  | _, _ => False
theorem os_dget {K : PySem.W.Frag} : OpS K (fun x y H Q => ∃ a v, x = .ref a ∧ DGet H a y (some v) ∧ Q v H) oDGet := fun EX G H x y p q Φ R hp hq f Q k => by
  unfold oDGet at f
  split at f
  · split at f
    · rename_i kk hk
      split at f
      · rename_i d hd
        obtain ⟨a, vs, e, g, kv⟩ := hp
        have ev := keyD_v hq hk
        subst ev
        rcases kv_val kk kv with ⟨_, q2⟩ | ⟨v, d', q1, q2, dv⟩
        · rw [q2] at hd; cases hd
        · rw [q2] at hd
          cases hd
          refine ⟨a, v, e, ?_, k v G H (.d d) R.refl dv f⟩
          rw [← q1]
          exact DGet.k (R.sub _ _ g)
      · exact f.elim
    · exact f.elim
  · split at f
    · rename_i kk hk
      split at f
      · rename_i d hd
        obtain ⟨a, vs, e, g, kv⟩ := hp
        obtain ⟨b, xs, e1, g1, d1⟩ := rwTup hq
        subst e1
        have ev := keysD_v d1 hk
        subst ev
        rcases kv_val kk kv with ⟨_, q2⟩ | ⟨v, d', q1, q2, dv⟩
        · rw [q2] at hd; cases hd
        · rw [q2] at hd
          cases hd
          refine ⟨a, v, e, ?_, k v G H (.d d) R.refl dv f⟩
          rw [← q1]
          exact DGet.t (R.sub _ _ g) (R.sub _ _ g1)
      · exact f.elim
    · exact f.elim
  · exact f.elim
theorem me_dget {k : Nat} (hr : Room k X.A) (ho : ME X o ta wa) (hi : ME X i tb wb) (hs : NoSl i := by exact fun _ _ => rfl) : ME X (.Subscript o i pos) (tDGet ta tb) (wOp oDGet wa wb) :=
  ⟨pe_dget (by have := hr.units; omega) ho.pe hi.pe hs, so_op (r := fun x y H Q => ∃ a v, x = .ref a ∧ DGet H a y (some v) ∧ Q v H) os_dget ho.so hi.so⟩

/-! ### slices -/
abbrev WP := Rh → (Option Int → Prop) → Prop
def SoP (K : PySem.W.Frag) (t : TO) (w : WP) : Prop := ∀ (EX : Ext) (G H : Hp) (σ : L2.St) (ρ : Rh) (Φ : Option Int → Prop), Rel K EX G H σ ρ → w ρ Φ →
  ∀ Q : Option Int → Hp → Prop, (∀ b G' H', Step EX G H G' H' → Φ b → Q b H') → t σ H Q
structure MP (X : Cx) (e : Option Expr) (t : TO) (w : WP) : Prop where
  po : PO X e t
  so : SoP X.K t w
def wNoPart : WP := fun _ Φ => Φ none
def wPart (w : WE) : WP := fun ρ Φ => w ρ fun r => match r with
  | .d (.int i) => Φ (some i)
  | _ => False
theorem mp_none : MP X none tNoPart wNoPart := ⟨po_none, fun EX G H σ ρ Φ R f Q q => q none G H R.refl f⟩
theorem mp_some (h : ME X e t w) : MP X (some e) (tPart t) (wPart w) := ⟨po_some h.pe, fun EX G H σ ρ Φ R f Q q => h.so EX G H σ ρ _ R f _ fun v G1 H1 r S1 rv f1 => by
  split at f1
  · exact ⟨_, rwInt rv, q _ G1 H1 S1 f1⟩
  · exact f1.elim⟩
def cutD (xs : List D) (lo hi : Option Int) : List D := (xs.drop (HT.sIx xs.length 0 lo)).take (HT.sIx xs.length xs.length hi - HT.sIx xs.length 0 lo)
theorem dpCut {K : PySem.W.Frag} {G : Hp} {vs : List V} {ds : List D} (h : DdAll K G vs ds) (lo hi : Option Int) : DdAll K G (cutV vs lo hi) (cutD ds lo hi) := by
  unfold cutV cutD
  rw [dpLen h]
  exact dpTake _ (dpDrop _ h)
theorem cut_all {vs : List V} {lo hi : Option Int} (h : HT.sIx vs.length 0 lo = 0 ∧ HT.sIx vs.length vs.length hi = vs.length) : cutV vs lo hi = vs := by
  unfold cutV
  rw [h.1, h.2, List.drop_zero, Nat.sub_zero, List.take_length]
def oSl (p : W) (lo hi : Option Int) (Φ : W → Prop) : Prop := match p with
  | .d (.list ds) => Φ (.d (.list (cutD ds lo hi)))
  | .d (.tuple ds) => Φ (.d (.tuple (cutD ds lo hi)))
  | .d (.str x) => Φ (.d (.str (cutS x lo hi)))
  | _ => False
def rSlM (K : PySem.W.Frag) : V → Option Int → Option Int → Hp → VK → Prop := fun x lo hi H Q => rSlL K x lo hi H Q ∨ rSlA K x lo hi H Q ∨ rSlS x lo hi H Q
def wSl (w : WE) (u v : WP) : WE := fun ρ Φ => w ρ fun r => u ρ fun lo => v ρ fun hi => oSl r lo hi Φ
variable {lo hi : Option Expr} {tl th : TO} {ul uh : WP} {p2 : Pos}
theorem me_slice (h : ME X e t w) (hl : MP X lo tl ul) (hh : MP X hi th uh) : ME X (.Subscript e (.Slice lo hi none p2) pos) (tSl (rSlM X.K) t tl th) (wSl w ul uh) :=
  ⟨pe_slice (sl_list.or (sl_tupA.or sl_str)) h.pe hl.po hh.po, fun EX G H σ ρ Φ R f Q q =>
    h.so EX G H σ ρ _ R f _ fun v G1 H1 r S1 rv f1 => hl.so EX G1 H1 σ ρ _ (R.step S1) f1 _ fun l G2 H2 S2 f2 => hh.so EX G2 H2 σ ρ _ ((R.step S1).step S2) f2 _ fun u G3 H3 S3 f3 => by
      have R3 := (((R.step S1).step S2).step S3).toGd
      have rv3 := rwMono (EX' := EX) (S2.trans S3).gg (fun _ _ h => h) rv
      have S := (S1.trans S2).trans S3
      unfold oSl at f3
      split at f3
      · obtain ⟨a, vs, e1, g, dd⟩ := rwLst rv3
        refine .inl ⟨a, vs, e1, .inl (.inl (R3.sub _ _ g)), fun p hp => ?_⟩
        have S4 := R3.new (p := p) (o := .lst (cutV vs l u)) hp
        exact q _ _ _ (.d (.list _)) (S.trans S4) (Dd.lst upd_same (dpsMono S4.gg _ _ (dpCut dd l u))) f3
      · obtain ⟨a, vs, e1, g, dd⟩ := rwTup rv3
        refine .inr (.inl ⟨a, vs, e1, .inl (.inl (R3.sub _ _ g)), fun c => ?_, fun _ p hp => ?_⟩)
        · refine q _ _ _ (.d (.tuple _)) S (Dd.tup g ?_) f3
          have := dpCut dd l u
          rw [cut_all c] at this
          exact this
        · have S4 := R3.new (p := p) (o := .tup (cutV vs l u)) hp
          exact q _ _ _ (.d (.tuple _)) (S.trans S4) (Dd.tup upd_same (dpsMono S4.gg _ _ (dpCut dd l u))) f3
      · obtain ⟨e1, so⟩ := rwStr rv3
        exact .inr (.inr ⟨_, e1, so.len, q _ _ _ (.d (.str _)) S (Dd.str _ (sok_cut so l u)) f3⟩)
      · exact f3.elim⟩
/-- a list's slice, its own -/
theorem ml_slice (h : ME X e t w) (hl : MP X lo tl ul) (hh : MP X hi th uh) : ML X (.Subscript e (.Slice lo hi none p2) pos) (tSl (rSlL X.K) t tl th)
    (fun ρ Φ => w ρ fun r => ul ρ fun lo => uh ρ fun hi => match r with | .d (.list ds) => Φ (cutD ds lo hi) | _ => False) :=
  ⟨pe_slice sl_list h.pe hl.po hh.po, fun EX G H σ ρ Φ R f Q q =>
    h.so EX G H σ ρ _ R f _ fun v G1 H1 r S1 rv f1 => hl.so EX G1 H1 σ ρ _ (R.step S1) f1 _ fun l G2 H2 S2 f2 => hh.so EX G2 H2 σ ρ _ ((R.step S1).step S2) f2 _ fun u G3 H3 S3 f3 => by
      have R3 := (((R.step S1).step S2).step S3).toGd
      have rv3 := rwMono (EX' := EX) (S2.trans S3).gg (fun _ _ h => h) rv
      have S := (S1.trans S2).trans S3
      split at f3
      · obtain ⟨a, vs, e1, g, dd⟩ := rwLst rv3
        refine ⟨a, vs, e1, .inl (.inl (R3.sub _ _ g)), fun p hp => ?_⟩
        have S4 := R3.newOut (p := p) (o := .lst (cutV vs l u)) hp
        exact q p _ _ _ _ (S.trans S4) (S.fresh hp) (R3.free hp) (R3.notBox hp) upd_same (dpCut dd l u) f3
      · exact f3.elim⟩
/-- [::-1] of a list -/
def wRev (w : WE) : WD := fun ρ Φ => w ρ fun r => match r with
  | .d (.list ds) => Φ ds.reverse
  | _ => False
theorem ml_rev {k : Nat} {p1 p2 p3 : Pos} (h : ME X e t w) : ML X (.Subscript e (.Slice none none (some (.UnaryOp .USub (.Constant (.int 1) k p1) p2)) p3) pos) (tRevL X.K t) (wRev w) :=
  ⟨pe_revL h.pe, fun EX G H σ ρ Φ R f Q q => h.so EX G H σ ρ _ R f _ fun v G1 H1 r S1 rv f1 => by
    split at f1
    · obtain ⟨a, vs, e1, g, dd⟩ := rwLst rv
      have R1 := R.toGd.step S1
      refine ⟨a, vs, e1, .inl (.inl (R1.sub _ _ g)), fun p hp => ?_⟩
      have S4 := R1.newOut (p := p) (o := .lst vs.reverse) hp
      exact q p _ _ _ _ (S1.trans S4) (S1.fresh hp) (R1.free hp) (R1.notBox hp) upd_same (dpRev dd) f1
    · exact f1.elim⟩

/-! ### calls of built-ins -/
abbrev FA := List W → (W → Prop) → Prop
def CallS (K : PySem.W.Frag) (r : List V → Hp → VK → Prop) (f : FA) : Prop := ∀ (EX : Ext) (G H : Hp) (xs : List V) (ws : List W) (Φ : W → Prop), Gd K EX G H → RwAll K EX G xs ws → f ws Φ →
  ∀ Q : VK, (∀ v G' H' c, Step EX G H G' H' → Rw K EX G' v c → Φ c → Q v H') → r xs H Q
def CallLS (K : PySem.W.Frag) (r : List V → Hp → VK → Prop) (f : List W → (List D → Prop) → Prop) : Prop := ∀ (EX : Ext) (G H : Hp) (xs : List V) (ws : List W) (Φ : List D → Prop), Gd K EX G H → RwAll K EX G xs ws → f ws Φ →
  ∀ Q : VK, (∀ a vs G' H' ds, Step EX G H G' H' → H a = none → G' a = none → ¬ EX a .box → H' a = some (.lst vs) → DdAll K G' vs ds → Φ ds → Q (.ref a) H') → r xs H Q
def wCB (f : FA) (wA : WA) : WE := fun ρ Φ => wA ρ fun ws => f ws Φ
def wCL (f : List W → (List D → Prop) → Prop) (wA : WA) : WD := fun ρ Φ => wA ρ fun ws => f ws Φ
structure CallM (X : Cx) (v : Value) (r : List V → Hp → VK → Prop) (f : FA) : Prop where
  op : CallR X v r
  so : CallS X.K r f
structure CallLM (X : Cx) (v : Value) (r : List V → Hp → VK → Prop) (f : List W → (List D → Prop) → Prop) : Prop where
  op : CallR X v r
  so : CallLS X.K r f
variable {x : Str} {p : Pos} {id : String} {T : String} {r : List V → Hp → VK → Prop} {f : FA} {fl : List W → (List D → Prop) → Prop}
theorem so_cb {K : PySem.W.Frag} (hf : CallS K r f) (h : SoA K tA wA) : SoE K (tCB r tA) (wCB f wA) := fun EX G H σ ρ Φ R g Q q => h EX G H σ ρ _ R g _ fun vs G1 H1 rs S1 rv f1 =>
  hf EX G1 H1 vs rs Φ (R.toGd.step S1) rv f1 Q fun z G3 H3 c S3 rc f3 => q z G3 H3 c (S1.trans S3) rc f3
theorem so_cl {K : PySem.W.Frag} (hf : CallLS K r fl) (h : SoA K tA wA) : SoL K (tCB r tA) (wCL fl wA) := fun EX G H σ ρ Φ R g Q q => h EX G H σ ρ _ R g _ fun vs G1 H1 rs S1 rv f1 =>
  hf EX G1 H1 vs rs Φ (R.toGd.step S1) rv f1 Q fun z us G3 H3 c S3 hz gz bz h3 rc f3 => q z us G3 H3 c (S1.trans S3) (S1.fresh hz) gz bz h3 rc f3
theorem me_callB (hc : CallM X (.builtin id) r f) (hm : X.mg x = none) (hg : Gl X x := by rfl) (hv : bootBuiltins x = some (.builtin id) := by decide +kernel) (ha : MA X (e :: es) tA wA) (hs : starEach (e :: es) X.env = (false, eval e X.env) :: starEach es X.env := by rfl)
    (hpl : (backTo pos (starEach es X.env)).any (·.1) = false := by rfl) (hn : x ≠ Str.ofString "__name__" := by decide) (hdb : (x == ("__debug__" : Str)) = false := by decide) : ME X (.Call (.Name x p) (e :: es) [] pos) (tCB r tA) (wCB f wA) := ⟨pe_callB hc.op hg hm hv ha.pa (hn := hn) (hdb := hdb) (he := hs) (hpl := hpl), so_cb hc.so ha.so⟩
theorem ml_callB (hc : CallLM X (.builtin id) r fl) (hm : X.mg x = none) (hg : Gl X x := by rfl) (hv : bootBuiltins x = some (.builtin id) := by decide +kernel) (ha : MA X (e :: es) tA wA) (hs : starEach (e :: es) X.env = (false, eval e X.env) :: starEach es X.env := by rfl)
    (hpl : (backTo pos (starEach es X.env)).any (·.1) = false := by rfl) (hn : x ≠ Str.ofString "__name__" := by decide) (hdb : (x == ("__debug__" : Str)) = false := by decide) : ML X (.Call (.Name x p) (e :: es) [] pos) (tCB r tA) (wCL fl wA) := ⟨pe_callB hc.op hg hm hv ha.pa (hn := hn) (hdb := hdb) (he := hs) (hpl := hpl), so_cl hc.so ha.so⟩
theorem me_callT (hc : CallM X (.type T) r f) (hm : X.mg x = none) (hg : Gl X x := by rfl) (hv : bootBuiltins x = some (.type T) := by decide +kernel) (ha : MA X (e :: es) tA wA) (hs : starEach (e :: es) X.env = (false, eval e X.env) :: starEach es X.env := by rfl)
    (hpl : (backTo pos (starEach es X.env)).any (·.1) = false := by rfl) (hn : x ≠ Str.ofString "__name__" := by decide) (hdb : (x == ("__debug__" : Str)) = false := by decide) : ME X (.Call (.Name x p) (e :: es) [] pos) (tCB r tA) (wCB f wA) := ⟨pe_callTy hc.op hg hm hv ha.pa (hn := hn) (hdb := hdb) (he := hs) (hpl := hpl), so_cb hc.so ha.so⟩
theorem ml_callT (hc : CallLM X (.type T) r fl) (hm : X.mg x = none) (hg : Gl X x := by rfl) (hv : bootBuiltins x = some (.type T) := by decide +kernel) (ha : MA X (e :: es) tA wA) (hs : starEach (e :: es) X.env = (false, eval e X.env) :: starEach es X.env := by rfl)
    (hpl : (backTo pos (starEach es X.env)).any (·.1) = false := by rfl) (hn : x ≠ Str.ofString "__name__" := by decide) (hdb : (x == ("__debug__" : Str)) = false := by decide) : ML X (.Call (.Name x p) (e :: es) [] pos) (tCB r tA) (wCL fl wA) := ⟨pe_callTy hc.op hg hm hv ha.pa (hn := hn) (hdb := hdb) (he := hs) (hpl := hpl), so_cl hc.so ha.so⟩

theorem rw1 {K : PySem.W.Frag} {EX : Ext} {G : Hp} {xs : List V} {w : W} (h : RwAll K EX G xs [w]) : ∃ x, xs = [x] ∧ Rw K EX G x w := by
  cases h with
  | cons h t => cases t; exact ⟨_, rfl, h⟩
theorem rw2 {K : PySem.W.Frag} {EX : Ext} {G : Hp} {xs : List V} {w u : W} (h : RwAll K EX G xs [w, u]) : ∃ x y, xs = [x, y] ∧ Rw K EX G x w ∧ Rw K EX G y u := by
  cases h with
  | cons h t =>
    obtain ⟨y, e, q⟩ := rw1 t
    subst e
    exact ⟨_, y, rfl, h, q⟩
/-- len -/
def oLen : FA := fun ws Φ => match ws with
  | [.d (.list ds)] => Φ (.d (.int ds.length))
  | [.d (.tuple ds)] => Φ (.d (.int ds.length))
  | [.d (.str x)] => Φ (.d (.int x.length))
  | [.sq _ ns] => Φ (.d (.int ns.length))
  | [.dk kvs] => Φ (.d (.int kvs.length))
  | _ => False
def rLenM (K : PySem.W.Frag) : List V → Hp → VK → Prop := fun xs H Q => (∃ x n, xs = [x] ∧ LenV K x H n ∧ Q (.int n) H) ∨ ∃ a kvs, xs = [.ref a] ∧ H a = some (.dK kvs) ∧ Q (.int kvs.length) H
theorem cm_len : CallM X (.builtin "len") (rLenM X.K) oLen := by
  refine ⟨fun pins s σ H xs us Q I r h => ?_, fun EX G H xs ws Φ R hw f Q k => ?_⟩
  · rcases h with h | ⟨a, kvs, e, g, q⟩
    · exact call_len pins s σ H xs us Q I r h
    · subst e
      obtain ⟨u, e, ru⟩ := vals1 r
      subst e
      cases ru
      exact d_len I (.inl g) fun t s' I' => ⟨.int kvs.length, H, I', ⟨t, rfl⟩, q⟩
  · unfold oLen at f
    split at f
    · obtain ⟨x, rfl, rx⟩ := rw1 hw
      obtain ⟨a, vs, e1, g, dd⟩ := rwLst rx
      subst e1
      exact .inl ⟨_, _, rfl, .inl ⟨vs, .inl (.inl (R.sub _ _ g)), (dpLen dd).symm⟩, k _ G H (.d (.int _)) R.refl (Dd.int _) f⟩
    · obtain ⟨x, rfl, rx⟩ := rw1 hw
      obtain ⟨a, vs, e1, g, dd⟩ := rwTup rx
      subst e1
      exact .inl ⟨_, _, rfl, .inr ⟨vs, .inl (.inl (R.sub _ _ g)), (dpLen dd).symm⟩, k _ G H (.d (.int _)) R.refl (Dd.int _) f⟩
    · obtain ⟨x, rfl, rx⟩ := rw1 hw
      obtain ⟨e1, so⟩ := rwStr rx
      subst e1
      exact .inl ⟨_, _, rfl, ⟨so.len, rfl⟩, k _ G H (.d (.int _)) R.refl (Dd.int _) f⟩
    · rename_i ns
      obtain ⟨x, rfl, rx⟩ := rw1 hw
      obtain ⟨e1, ex⟩ := rx
      subst e1
      exact .inl ⟨_, _, rfl, .inl ⟨_, (R.sc _ _ ex).seqS, rfl⟩, k _ G H (.d (.int _)) R.refl (by rw [List.length_map]; exact Dd.int _) f⟩
    · obtain ⟨x, rfl, rx⟩ := rw1 hw
      obtain ⟨a, vs, e1, g, kv⟩ := rx
      subst e1
      exact .inr ⟨a, vs, rfl, R.sub _ _ g, by rw [kv_len kv]; exact k _ G H (.d (.int _)) R.refl (Dd.int _) f⟩
    · exact f.elim
/-- tuple(x) of a list or tuple -/
def oTuple : FA := fun ws Φ => match ws with
  | [.d (.list ds)] => Φ (.d (.tuple ds))
  | [.d (.tuple ds)] => Φ (.d (.tuple ds))
  | _ => False
theorem cm_tuple : CallM X (.type "tuple") (fun xs H Q => ∃ p ys, xs = [.ref p] ∧ ((SqL X.K H p ys ∧ ∀ l, H l = none → Q (.ref l) (upd H l (.tup ys))) ∨ (SqT X.K H p ys ∧ Q (.ref p) H))) oTuple := by
  refine ⟨call_tuple_of, fun EX G H xs ws Φ R hw f Q k => ?_⟩
  unfold oTuple at f
  split at f
  · obtain ⟨x, rfl, rx⟩ := rw1 hw
    obtain ⟨a, vs, e1, g, dd⟩ := rwLst rx
    subst e1
    refine ⟨a, vs, rfl, .inl ⟨.inl (.inl (R.sub _ _ g)), fun p hp => ?_⟩⟩
    have S := R.new (p := p) (o := .tup vs) hp
    exact k _ _ _ (.d (.tuple _)) S (Dd.tup upd_same (dpsMono S.gg _ _ dd)) f
  · obtain ⟨x, rfl, rx⟩ := rw1 hw
    obtain ⟨a, vs, e1, g, dd⟩ := rwTup rx
    subst e1
    exact ⟨a, vs, rfl, .inr ⟨.inl (.inl (R.sub _ _ g)), k _ _ _ (.d (.tuple _)) R.refl (Dd.tup g dd) f⟩⟩
  · exact f.elim
/-- list(x) -/
def oList : List W → (List D → Prop) → Prop := fun ws Φ => match ws with
  | [.d (.list ds)] => Φ ds
  | [.d (.tuple ds)] => Φ ds
  | _ => False
theorem cm_list : CallLM X (.type "list") (fun xs H Q => ∃ p ys, xs = [.ref p] ∧ (SqL X.K H p ys ∨ SqT X.K H p ys) ∧ ∀ l, H l = none → Q (.ref l) (upd H l (.lst ys))) oList := by
  refine ⟨call_list_of, fun EX G H xs ws Φ R hw f Q k => ?_⟩
  unfold oList at f
  split at f
  · obtain ⟨x, rfl, rx⟩ := rw1 hw
    obtain ⟨a, vs, e1, g, dd⟩ := rwLst rx
    subst e1
    refine ⟨a, vs, rfl, .inl (.inl (.inl (R.sub _ _ g))), fun p hp => ?_⟩
    have S := R.newOut (p := p) (o := .lst vs) hp
    exact k p vs _ _ _ S hp (R.free hp) (R.notBox hp) upd_same dd f
  · obtain ⟨x, rfl, rx⟩ := rw1 hw
    obtain ⟨a, vs, e1, g, dd⟩ := rwTup rx
    subst e1
    refine ⟨a, vs, rfl, .inr (.inl (.inl (R.sub _ _ g))), fun p hp => ?_⟩
    have S := R.newOut (p := p) (o := .lst vs) hp
    exact k p vs _ _ _ S hp (R.free hp) (R.notBox hp) upd_same dd f
  · exact f.elim
/-- int(x) of an int, of a bool -/
def oInt : FA := fun ws Φ => match ws with
  | [.d (.int i)] => Φ (.d (.int i))
  | [.d (.bool b)] => Φ (.d (.int (if b then 1 else 0)))
  | _ => False
theorem cm_int : CallM X (.type "int") (fun xs H Q => (∃ i, xs = [.int i] ∧ Q (.int i) H) ∨ ∃ k, xs = [.bl k] ∧ Q (.int (if k then 1 else 0)) H) oInt := by
  refine ⟨call_int1, fun EX G H xs ws Φ R hw f Q k => ?_⟩
  unfold oInt at f
  split at f
  · obtain ⟨x, rfl, rx⟩ := rw1 hw
    exact .inl ⟨_, by rw [rwInt rx], k _ _ _ (.d (.int _)) R.refl (Dd.int _) f⟩
  · obtain ⟨x, rfl, rx⟩ := rw1 hw
    exact .inr ⟨_, by rw [rwBool rx], k _ _ _ (.d (.int _)) R.refl (Dd.int _) f⟩
  · exact f.elim
/-- all, any of a list of bools -/
def boolsD : List D → Option (List Bool)
  | [] => some []
  | .bool b :: r => match boolsD r with
    | some bs => some (b :: bs)
    | none => none
  | _ :: _ => none
theorem boolsD_v {K : PySem.W.Frag} {G : Hp} : ∀ {vs : List V} {ds : List D} {bs : List Bool}, DdAll K G vs ds → boolsD ds = some bs → vs = bs.map V.bl
  | _, [], bs, h, e => by
    cases h
    cases e
    rfl
  | _, d :: ds, bs, h, e => by
    cases h with
    | cons h1 h2 =>
      cases d with
      | bool b =>
        unfold boolsD at e
        split at e
        · cases e
          cases h1
          rw [List.map_cons, boolsD_v h2 (by assumption)]
        · cases e
      | _ => cases e
def oAnyAll (g : List Bool → Bool) : FA := fun ws Φ => match ws with
  | [.d (.list ds)] => (match boolsD ds with
    | some bs => Φ (.d (.bool (g bs)))
    | none => False)
  | _ => False
theorem os_anyall {K : PySem.W.Frag} {g : List Bool → Bool} : CallS K (fun vs H Q => ∃ (a : Addr) (bs : List Bool), vs = [V.ref a] ∧ SqL K H a (bs.map V.bl) ∧ Q (.bl (g bs)) H) (oAnyAll g) := fun EX G H xs ws Φ R hw f Q k => by
  unfold oAnyAll at f
  split at f
  · split at f
    · rename_i bs hb
      obtain ⟨x, rfl, rx⟩ := rw1 hw
      obtain ⟨a, vs, e1, g', dd⟩ := rwLst rx
      subst e1
      have ev := boolsD_v dd hb
      subst ev
      exact ⟨a, bs, rfl, .inl (.inl (R.sub _ _ g')), k _ _ _ (.d (.bool _)) R.refl (Dd.bl _) f⟩
    · exact f.elim
  · exact f.elim
theorem cm_all (hc : X.calm = true := by rfl) : CallM X (.builtin "all") (rAll X.K) (oAnyAll fun bs => bs.all _root_.id) := ⟨cr_all hc, os_anyall⟩
theorem cm_any (hc : X.calm = true := by rfl) : CallM X (.builtin "any") (rAny X.K) (oAnyAll fun bs => bs.any _root_.id) := ⟨cr_any hc, os_anyall⟩
/-- max, min of two ints -/
def oMax2 : FA := fun ws Φ => match ws with
  | [.d (.int i), .d (.int j)] => Φ (.d (.int (if j > i then j else i)))
  | _ => False
def oMin2 : FA := fun ws Φ => match ws with
  | [.d (.int i), .d (.int j)] => Φ (.d (.int (if j < i then j else i)))
  | _ => False
theorem cm_max2 (hc : X.calm = true := by rfl) : CallM X (.builtin "max") (fun xs H Q => ∃ i j, xs = [.int i, .int j] ∧ Q (.int (if j > i then j else i)) H) oMax2 := by
  refine ⟨call_max2 hc, fun EX G H xs ws Φ R hw f Q k => ?_⟩
  unfold oMax2 at f
  split at f
  · obtain ⟨x, y, rfl, rx, ry⟩ := rw2 hw
    exact ⟨_, _, by rw [rwInt rx, rwInt ry], k _ _ _ (.d (.int _)) R.refl (Dd.int _) f⟩
  · exact f.elim
theorem cm_min2 (hc : X.calm = true := by rfl) : CallM X (.builtin "min") (fun xs H Q => ∃ i j, xs = [.int i, .int j] ∧ Q (.int (if j < i then j else i)) H) oMin2 := by
  refine ⟨call_min2 hc, fun EX G H xs ws Φ R hw f Q k => ?_⟩
  unfold oMin2 at f
  split at f
  · obtain ⟨x, y, rfl, rx, ry⟩ := rw2 hw
    exact ⟨_, _, by rw [rwInt rx, rwInt ry], k _ _ _ (.d (.int _)) R.refl (Dd.int _) f⟩
  · exact f.elim
end
end Pd
end

section
set_option Elab.async false
set_option linter.all false
set_option maxRecDepth 100000
set_option autoImplicit false
set_option maxHeartbeats 1000000
/-! Pd, what is walked; targets; comprehensions -/
namespace Pd
open PySem PySem.Spec PyProof.Rows L2

/-! ### walks -/
def Walk (K : PySem.W.Frag) (EX : Ext) (J : It) (G : Hp) (ds : List D) : Prop := ∀ (EX' : Ext) (Gc H : Hp), (∀ b k, EX b k → EX' b k) → Same G Gc → Gd K EX' Gc H → ∀ i : Nat, (ds.length ≤ i → J.stop i H) ∧
  ∀ d, ds[i]? = some d → J.go i H ∧ ∀ x H', J.yld i H x H' → ∃ G', Step EX' Gc H G' H' ∧ Dd K G' x d
def SoI (K : PySem.W.Frag) (wi : TI) (w : WD) : Prop := ∀ (EX : Ext) (G H : Hp) (σ : L2.St) (ρ : Rh) (Φ : List D → Prop), Rel K EX G H σ ρ → w ρ Φ →
  ∀ R : It → Hp → Prop, (∀ J G' H' ds, Step EX G H G' H' → Walk K EX J G' ds → ds.length ≤ sizeLine → Φ ds → R J H') → wi σ H R
structure MI (X : Cx) (tg e : Expr) (wi : TI) (w : WD) : Prop where
  pi : PI X tg e wi
  so : SoI X.K wi w
theorem walk_l {K : PySem.W.Frag} {EX : Ext} {G : Hp} {a : Addr} {vs : List V} {ds : List D} (g : ∀ EX' Gc H, (∀ b k, EX b k → EX' b k) → Same G Gc → Gd K EX' Gc H → SqL K H a vs) (dd : DdAll K G vs ds) : Walk K EX (Itl K a) G ds := fun EX' Gc H eb s R i => by
  refine ⟨fun h => ⟨vs, g EX' Gc H eb s R, by rw [dpLen dd]; exact h⟩, fun d e => ?_⟩
  obtain ⟨v, e1, dv⟩ := dpGet dd e
  refine ⟨⟨vs, v, g EX' Gc H eb s R, e1⟩, fun x H' y => ?_⟩
  obtain ⟨rfl, y⟩ := y
  have ex : x = v := Option.some.inj ((y vs (g EX' Gc _ eb s R)).symm.trans e1)
  subst ex
  exact ⟨Gc, R.refl, dpMono s _ _ dv⟩
theorem walk_t {K : PySem.W.Frag} {EX : Ext} {G : Hp} {a : Addr} {vs : List V} {ds : List D} (g : G a = some (.tup vs)) (dd : DdAll K G vs ds) : Walk K EX (Itt K a) G ds := fun EX' Gc H eb s R i => by
  have hs : SqT K H a vs := .inl (.inl (R.sub _ _ (s _ _ g)))
  refine ⟨fun h => ⟨vs, hs, by rw [dpLen dd]; exact h⟩, fun d e => ?_⟩
  obtain ⟨v, e1, dv⟩ := dpGet dd e
  refine ⟨⟨vs, v, hs, e1⟩, fun x H' y => ?_⟩
  obtain ⟨rfl, y⟩ := y
  have ex : x = v := Option.some.inj ((y vs hs).symm.trans e1)
  subst ex
  exact ⟨Gc, R.refl, dpMono s _ _ dv⟩
/-- the signs of a text -/
def signs (x : Str) : List D := x.cps.toList.map fun c => PyData.str ⟨#[c]⟩
theorem walk_s {K : PySem.W.Frag} {EX : Ext} {G : Hp} {x : Str} (so : SOk x) : Walk K EX (Its x) G (signs x) := fun EX' Gc H eb s R i => by
  refine ⟨fun h => by simpa [signs, Its] using h, fun d e => ?_⟩
  unfold signs at e
  rw [List.getElem?_map] at e
  cases q : x.cps.toList[i]? with
  | none => rw [q] at e; cases e
  | some c =>
    rw [q] at e
    cases e
    have hi : i < x.cps.size := by
      have := (List.getElem?_eq_some_iff.mp q).1
      simpa using this
    refine ⟨hi, fun v H' y => ?_⟩
    obtain ⟨rfl, c', e1, rfl⟩ := y
    have ec : c' = c := by
      have : x.cps.toList[i]? = some c' := by simpa using e1
      rw [q] at this
      exact (Option.some.inj this).symm
    subst ec
    exact ⟨Gc, R.refl, Dd.str _ (sok_one so (List.mem_of_getElem? q))⟩
/-- a list, a tuple, a text, the script -/
def iSeq (K : PySem.W.Frag) (tl : TE) : TI := fun σ H R => tl σ H fun x H1 => (∃ a, x = .ref a ∧ (∃ xs, SqL K H1 a xs) ∧ R (Itl K a) H1) ∨ (∃ a, x = .ref a ∧ (∃ xs, SqT K H1 a xs) ∧ R (Itt K a) H1) ∨ ∃ z, x = .str z ∧ R (Its z) H1
theorem pi_seq {X : Cx} {tg l : Expr} {tl : TE} (hl : PE X l tl) : PI X tg l (iSeq X.K tl) := by
  refine ⟨fun pins s σ H R I h => ?_⟩
  refine thn (hl.run pins s σ H _ I h) fun v s1 ⟨x, H1, I1, r1, q1⟩ => ?_
  rcases q1 with ⟨a, e, ⟨xs, hq⟩, q⟩ | ⟨a, e, ⟨xs, hq⟩, q⟩ | ⟨z, e, q⟩
  · subst e
    cases r1
    obtain ⟨its, rv, p, hz⟩ := I1.list hq
    refine wpAny_pyIter_list p.isList ?_
    refine ⟨s1.heap.objs.size, [s1.heap.objs.size], _, _, H1, rfl, I1.kept (t' := s1.toks) fun b o e => Heap.get?_push_of_some _ e, turn_list a _, ⟨_, Heap.get?_push_size _ rfl, rfl, rfl⟩, fun b hb => ?_, q⟩
    have e : b = s1.heap.objs.size := by simpa using hb
    subst e
    exact I1.fpOk (Nat.le_refl _) (I1.hok.fresh (Nat.le_refl _))
  · subst e
    cases r1
    obtain ⟨its, rv, p, hz⟩ := I1.tuple hq
    refine wpAny_pyIter_tuple (show s1.heap.IsTuple a its.toArray from p) ?_
    refine ⟨s1.heap.objs.size, [s1.heap.objs.size], _, _, H1, rfl, I1.kept (t' := s1.toks) fun b o e => Heap.get?_push_of_some _ e, turn_tuple a _, ⟨_, Heap.get?_push_size _ rfl, rfl, rfl⟩, fun b hb => ?_, q⟩
    have e : b = s1.heap.objs.size := by simpa using hb
    subst e
    exact I1.fpOk (Nat.le_refl _) (I1.hok.fresh (Nat.le_refl _))
  · subst e
    obtain ⟨t, rfl⟩ := r1
    cases ha : z.cps.all (· < 128)
    · exact wpAny_pyIter_wide ha (pi_one (tk := s1.toks) I1 _ (turn_str _ z t "str_iterator" (.inr rfl)) ⟨_, Heap.get?_push_size _ rfl, rfl, rfl⟩ q)
    · exact wpAny_pyIter_ascii ha (pi_one (tk := s1.toks) I1 _ (turn_str _ z t "str_ascii_iterator" (.inl rfl)) ⟨_, Heap.get?_push_size _ rfl, rfl, rfl⟩ q)
def seqD (r : W) (Φ : List D → Prop) : Prop := match r with
  | .d (.list ds) => Φ ds
  | .d (.tuple ds) => Φ ds
  | .d (.str x) => Φ (signs x)
  | .sq _ ns => Φ (ns.map PyData.int)
  | _ => False
def wSeq (w : WE) : WD := fun ρ Φ => w ρ fun r => seqD r Φ
theorem ints_dd {K : PySem.W.Frag} {G : Hp} : ∀ ns : List Int, DdAll K G (ns.map V.int) (ns.map PyData.int)
  | [] => .nil
  | n :: ns => .cons (.int n) (ints_dd ns)
section
variable {X : Cx} {tg e a b : Expr} {es : List Expr} {t : TE} {tA : TA} {w : WE} {wA : WA} {pos p : Pos}
theorem mi_seq (h : ME X e t w) : MI X tg e (iSeq X.K (fun σ H Q => t σ H fun v H1 => bdE X.K (fun _ H2 Q' => Q' v H2) σ H1 Q)) (wSeq w) := by
  have hp : PE X e (fun σ H Q => t σ H fun v H1 => bdE X.K (fun _ H2 Q' => Q' v H2) σ H1 Q) := ⟨fun pins s σ H Q I q => thn (h.pe.run pins s σ H _ I q) fun u s1 ⟨x, H1, I1, r1, q1⟩ => ⟨x, H1, I1, r1, q1 (bd_of I1)⟩⟩
  refine ⟨pi_seq hp, fun EX G H σ ρ Φ R f Q q => h.so EX G H σ ρ _ R f _ fun v G1 H1 r S1 rv f1 bd => ?_⟩
  have R1 := R.toGd.step S1
  unfold seqD at f1
  split at f1
  · obtain ⟨a, vs, e1, g, dd⟩ := rwLst rv
    have hs : SqL X.K H1 a vs := .inl (.inl (R1.sub _ _ g))
    refine .inl ⟨a, e1, ⟨vs, hs⟩, q _ G1 H1 _ S1 (walk_l (fun EX' Gc H' eb s R' => .inl (.inl (R'.sub _ _ (s _ _ g)))) dd) ?_ f1⟩
    rw [← dpLen dd]
    exact bd.l a vs hs
  · obtain ⟨a, vs, e1, g, dd⟩ := rwTup rv
    have hs : SqT X.K H1 a vs := .inl (.inl (R1.sub _ _ g))
    refine .inr (.inl ⟨a, e1, ⟨vs, hs⟩, q _ G1 H1 _ S1 (walk_t g dd) ?_ f1⟩)
    rw [← dpLen dd]
    exact bd.t a vs hs
  · obtain ⟨e1, so⟩ := rwStr rv
    refine .inr (.inr ⟨_, e1, q _ G1 H1 _ S1 (walk_s so) ?_ f1⟩)
    unfold signs
    rw [List.length_map]
    exact so.len
  · rename_i a ns
    obtain ⟨e1, ex⟩ := rv
    have hs := (R1.sc _ _ ex).seqS
    refine .inl ⟨a, e1, ⟨_, hs⟩, q _ G1 H1 _ S1 (walk_l (fun EX' Gc H' eb s R' => (R'.sc _ _ (eb _ _ ex)).seqS) (ints_dd ns)) ?_ f1⟩
    rw [List.length_map]
    have := bd.l a _ hs
    rw [List.length_map] at this
    exact this
  · exact f1.elim
/-- lo, lo + 1, .. -/
def intsFrom (lo : Int) (n : Nat) : List D := (List.range n).map fun (i : Nat) => PyData.int (lo + i)
theorem walk_r {K : PySem.W.Frag} {EX : Ext} {G : Hp} {lo : Int} {n : Nat} : Walk K EX (Itr lo n) G (intsFrom lo n) := fun EX' Gc H eb s R i => by
  refine ⟨fun h => by simpa [intsFrom, Itr] using h, fun d e => ?_⟩
  unfold intsFrom at e
  rw [List.getElem?_map] at e
  cases q : (List.range n)[i]? with
  | none => rw [q] at e; cases e
  | some j =>
    rw [q] at e
    cases e
    obtain ⟨h1, h2⟩ := List.getElem?_eq_some_iff.mp q
    rw [List.getElem_range] at h2
    subst h2
    refine ⟨(show i < n by simpa using h1), fun x H' y => ?_⟩
    obtain ⟨rfl, rfl⟩ := y
    exact ⟨Gc, R.refl, Dd.int _⟩
def wRange1 (wA : WA) : WD := fun ρ Φ => wA ρ fun ws => match ws with
  | [.d (.int j)] => (-(2 ^ 62) ≤ j ∧ j ≤ 1000000) ∧ Φ (intsFrom 0 j.toNat)
  | _ => False
def wRange2 (wA : WA) : WD := fun ρ Φ => wA ρ fun ws => match ws with
  | [.d (.int i), .d (.int j)] => (-(2 ^ 61) ≤ i ∧ i ≤ 2 ^ 61 ∧ -(2 ^ 61) ≤ j ∧ j ≤ i + 1000000) ∧ Φ (intsFrom i (j - i).toNat)
  | _ => False
theorem mil_le {n : Nat} (h : n ≤ 1000000) : n ≤ sizeLine := Nat.le_trans h (by rw [sizeLine_eq]; decide)
theorem mi_range1 (hm : X.mg "range" = none) (hg : Gl X "range" := by rfl) (ha : MA X [a] tA wA) (hs : starEach [a] X.env = [(false, eval a X.env)] := by rfl) : MI X tg (.Call (.Name "range" p) [a] [] pos) (iRng1 tA) (wRange1 wA) :=
  ⟨pi_range1 hg hm ha.pa hs, fun EX G H σ ρ Φ R f Q q => ha.so EX G H σ ρ _ R f _ fun vs G1 H1 rs S1 rv f1 => by
    split at f1
    · rename_i j
      obtain ⟨x, rfl, rx⟩ := rw1 rv
      refine ⟨j, by rw [rwInt rx], f1.1.1, by have := f1.1.2; omega, q _ G1 H1 _ S1 walk_r ?_ f1.2⟩
      unfold intsFrom
      rw [List.length_map, List.length_range]
      exact mil_le (by have := f1.1.2; omega)
    · exact f1.elim⟩
theorem mi_range2 (hm : X.mg "range" = none) (hg : Gl X "range" := by rfl) (ha : MA X [a, b] tA wA) (hs : starEach [a, b] X.env = [(false, eval a X.env), (false, eval b X.env)] := by rfl) (hs2 : starEach [b] X.env = [(false, eval b X.env)] := by rfl) :
    MI X tg (.Call (.Name "range" p) [a, b] [] pos) (iRng2 tA) (wRange2 wA) :=
  ⟨pi_range2 hg hm ha.pa hs hs2, fun EX G H σ ρ Φ R f Q q => ha.so EX G H σ ρ _ R f _ fun vs G1 H1 rs S1 rv f1 => by
    split at f1
    · rename_i i j
      obtain ⟨x, y, rfl, rx, ry⟩ := rw2 rv
      obtain ⟨⟨h1, h2, h3, h4⟩, f2⟩ := f1
      refine ⟨i, j, by rw [rwInt rx, rwInt ry], ⟨by omega, by omega, by omega, by omega⟩, q _ G1 H1 _ S1 walk_r ?_ f2⟩
      unfold intsFrom
      rw [List.length_map, List.length_range]
      exact mil_le (by omega)
    · exact f1.elim⟩
/-- zip of two lists, of two tuples -/
def pairD (d e : D) : D := .tuple [d, e]
def zipD : List D → List D → List D
  | x :: xs, y :: ys => pairD x y :: zipD xs ys
  | _, _ => []
theorem zipD_get : ∀ {xs ys : List D} {i : Nat} {d : D}, (zipD xs ys)[i]? = some d → ∃ x y, xs[i]? = some x ∧ ys[i]? = some y ∧ d = pairD x y
  | x :: xs, y :: ys, 0, d, e => by
    simp only [zipD, List.getElem?_cons_zero, Option.some.injEq] at e
    exact ⟨x, y, rfl, rfl, e.symm⟩
  | x :: xs, y :: ys, i + 1, d, e => by
    simp only [zipD, List.getElem?_cons_succ] at e
    obtain ⟨u, v, h1, h2, h3⟩ := zipD_get (i := i) e
    exact ⟨u, v, by simpa using h1, by simpa using h2, h3⟩
  | [], _, _, _, e => by simp [zipD] at e
  | _ :: _, [], _, _, e => by simp [zipD] at e
theorem zipD_len : ∀ xs ys : List D, (zipD xs ys).length = min xs.length ys.length
  | x :: xs, y :: ys => by simp only [zipD, List.length_cons, zipD_len xs ys]; omega
  | [], _ => by simp [zipD]
  | _ :: _, [] => by simp [zipD]
theorem walk_zl {K : PySem.W.Frag} {EX : Ext} {G : Hp} {a b : Addr} {vs us : List V} {ds es : List D} (g : G a = some (.lst vs)) (g' : G b = some (.lst us)) (dd : DdAll K G vs ds) (de : DdAll K G us es) : Walk K EX (Itz K a b) G (zipD ds es) := fun EX' Gc H eb s R i => by
  have ha : SqL K H a vs := .inl (.inl (R.sub _ _ (s _ _ g)))
  have hb : SqL K H b us := .inl (.inl (R.sub _ _ (s _ _ g')))
  refine ⟨fun h => ⟨vs, us, ha, hb, ?_⟩, fun d e => ?_⟩
  · rw [zipD_len] at h
    rw [dpLen dd, dpLen de]
    omega
  · obtain ⟨x, y, e1, e2, rfl⟩ := zipD_get e
    obtain ⟨v, q1, d1⟩ := dpGet dd e1
    obtain ⟨u, q2, d2⟩ := dpGet de e2
    refine ⟨⟨vs, us, v, u, ha, hb, q1, q2⟩, fun z H' y' => ?_⟩
    obtain ⟨T, x', y', rfl, nT, rfl, f1, f2⟩ := y'
    have ex : x' = v := Option.some.inj ((f1 _ ha).symm.trans q1)
    have ey : y' = u := Option.some.inj ((f2 _ hb).symm.trans q2)
    subst ex ey
    have S := R.new (p := T) (o := .tup [x', y']) nT
    exact ⟨_, S, Dd.tup upd_same (.cons (dpMono (s.trans S.gg) _ _ d1) (.cons (dpMono (s.trans S.gg) _ _ d2) .nil))⟩
theorem walk_zt {K : PySem.W.Frag} {EX : Ext} {G : Hp} {a b : Addr} {vs us : List V} {ds es : List D} (g : G a = some (.tup vs)) (g' : G b = some (.tup us)) (dd : DdAll K G vs ds) (de : DdAll K G us es) : Walk K EX (RZ.ItzT K a b) G (zipD ds es) := fun EX' Gc H eb s R i => by
  have ha : SqT K H a vs := .inl (.inl (R.sub _ _ (s _ _ g)))
  have hb : SqT K H b us := .inl (.inl (R.sub _ _ (s _ _ g')))
  refine ⟨fun h => ⟨vs, us, ha, hb, ?_⟩, fun d e => ?_⟩
  · rw [zipD_len] at h
    rw [dpLen dd, dpLen de]
    omega
  · obtain ⟨x, y, e1, e2, rfl⟩ := zipD_get e
    obtain ⟨v, q1, d1⟩ := dpGet dd e1
    obtain ⟨u, q2, d2⟩ := dpGet de e2
    refine ⟨⟨vs, us, v, u, ha, hb, q1, q2⟩, fun z H' y' => ?_⟩
    obtain ⟨T, x', y', rfl, nT, rfl, f1, f2⟩ := y'
    have ex : x' = v := Option.some.inj ((f1 _ ha).symm.trans q1)
    have ey : y' = u := Option.some.inj ((f2 _ hb).symm.trans q2)
    subst ex ey
    have S := R.new (p := T) (o := .tup [x', y']) nT
    exact ⟨_, S, Dd.tup upd_same (.cons (dpMono (s.trans S.gg) _ _ d1) (.cons (dpMono (s.trans S.gg) _ _ d2) .nil))⟩
def wZip (wA : WA) : WD := fun ρ Φ => wA ρ fun ws => match ws with
  | [.d (.list x), .d (.list y)] => Φ (zipD x y)
  | [.d (.tuple x), .d (.tuple y)] => Φ (zipD x y)
  | _ => False
/-- the lengths are bounded behind the arguments -/
def bdA (K : PySem.W.Frag) (t : TA) : TA := fun σ H Q => t σ H fun vs H1 => Bd K H1 → Q vs H1
theorem pa_bd {es : List Expr} {t : TA} (h : PA X es t) : PA X es (bdA X.K t) := ⟨fun pos pins s σ H Q I q => thn (h.run pos pins s σ H _ I q) fun us s1 ⟨vs, H1, I1, r1, q1⟩ => ⟨vs, H1, I1, r1, q1 (bd_of I1)⟩⟩
theorem mi_zip {elts : List Expr} {kk : Nat} {tpos : Pos} (hm : X.mg "zip" = none) (hg : Gl X "zip" := by rfl) (ha : MA X [a, b] tA wA)
    (hs : starEach [a, b] X.env = (false, eval a X.env) :: starEach [b] X.env := by rfl) (hpl : (backTo pos (starEach [b] X.env)).any (·.1) = false := by rfl) :
    MI X (.Tuple elts kk tpos) (.Call (.Name "zip" p) [a, b] [] pos) (RZ.iZipA X.K (bdA X.K tA)) (wZip wA) :=
  ⟨RZ.pi_zipA hg hm (pa_bd ha.pa) hs hpl, fun EX G H σ ρ Φ R f Q q => ha.so EX G H σ ρ _ R f _ fun vs G1 H1 rs S1 rv f1 bd => by
    have R1 := R.toGd.step S1
    split at f1
    · obtain ⟨x, y, rfl, rx, ry⟩ := rw2 rv
      obtain ⟨a, xs, rfl, g, dd⟩ := rwLst rx
      obtain ⟨b, ys, rfl, g', de⟩ := rwLst ry
      have ha : SqL X.K H1 a xs := .inl (.inl (R1.sub _ _ g))
      refine ⟨a, b, xs, ys, rfl, .inl ⟨ha, .inl (.inl (R1.sub _ _ g')), q _ G1 H1 _ S1 (walk_zl g g' dd de) ?_ f1⟩⟩
      rw [zipD_len, ← dpLen dd]
      exact Nat.le_trans (Nat.min_le_left _ _) (bd.l _ _ ha)
    · obtain ⟨x, y, rfl, rx, ry⟩ := rw2 rv
      obtain ⟨a, xs, rfl, g, dd⟩ := rwTup rx
      obtain ⟨b, ys, rfl, g', de⟩ := rwTup ry
      have ha : SqT X.K H1 a xs := .inl (.inl (R1.sub _ _ g))
      refine ⟨a, b, xs, ys, rfl, .inr ⟨ha, .inl (.inl (R1.sub _ _ g')), q _ G1 H1 _ S1 (walk_zt g g' dd de) ?_ f1⟩⟩
      rw [zipD_len, ← dpLen dd]
      exact Nat.le_trans (Nat.min_le_left _ _) (bd.t _ _ ha)
    · exact f1.elim⟩
/-- enumerate of a list -/
def enumD : Nat → List D → List D
  | _, [] => []
  | n, x :: xs => pairD (.int n) x :: enumD (n + 1) xs
theorem enumD_get : ∀ {xs : List D} {n i : Nat} {d : D}, (enumD n xs)[i]? = some d → ∃ x, xs[i]? = some x ∧ d = pairD (.int ((n + i : Nat) : Int)) x
  | x :: xs, n, 0, d, e => by
    simp only [enumD, List.getElem?_cons_zero, Option.some.injEq] at e
    exact ⟨x, rfl, by rw [Nat.add_zero]; exact e.symm⟩
  | x :: xs, n, i + 1, d, e => by
    simp only [enumD, List.getElem?_cons_succ] at e
    obtain ⟨u, h1, h2⟩ := enumD_get (i := i) e
    exact ⟨u, by simpa using h1, by rw [h2]; congr 2; omega⟩
  | [], _, _, _, e => by simp [enumD] at e
theorem enumD_len : ∀ (xs : List D) (n : Nat), (enumD n xs).length = xs.length
  | [], _ => rfl
  | x :: xs, n => by simp only [enumD, List.length_cons, enumD_len xs]
theorem walk_e {K : PySem.W.Frag} {EX : Ext} {G : Hp} {a : Addr} {vs : List V} {ds : List D} (g : G a = some (.lst vs)) (dd : DdAll K G vs ds) : Walk K EX (Ite K a) G (enumD 0 ds) := fun EX' Gc H eb s R i => by
  have ha : SqL K H a vs := .inl (.inl (R.sub _ _ (s _ _ g)))
  refine ⟨fun h => ⟨vs, ha, ?_⟩, fun d e => ?_⟩
  · rw [enumD_len] at h
    rw [dpLen dd]
    exact h
  · obtain ⟨x, e1, rfl⟩ := enumD_get e
    obtain ⟨v, q1, d1⟩ := dpGet dd e1
    refine ⟨⟨vs, v, ha, q1⟩, fun z H' y' => ?_⟩
    obtain ⟨T, x', rfl, nT, rfl, f1⟩ := y'
    have ex : x' = v := Option.some.inj ((f1 _ ha).symm.trans q1)
    subst ex
    have S := R.new (p := T) (o := .tup [.int (i : Nat), x']) nT
    exact ⟨_, S, Dd.tup upd_same (.cons (by rw [Nat.zero_add]; exact Dd.int _) (.cons (dpMono (s.trans S.gg) _ _ d1) .nil))⟩
def wEnum (wA : WA) : WD := fun ρ Φ => wA ρ fun ws => match ws with
  | [.d (.list x)] => Φ (enumD 0 x)
  | _ => False
theorem mi_enum {elts : List Expr} {kk : Nat} {tpos : Pos} (hm : X.mg "enumerate" = none) (hg : Gl X "enumerate" := by rfl) (ha : MA X [a] tA wA) (hs : starEach [a] X.env = [(false, eval a X.env)] := by rfl) :
    MI X (.Tuple elts kk tpos) (.Call (.Name "enumerate" p) [a] [] pos) (iEnum X.K (bdA X.K tA)) (wEnum wA) :=
  ⟨pi_enum hg hm (pa_bd ha.pa) hs, fun EX G H σ ρ Φ R f Q q => ha.so EX G H σ ρ _ R f _ fun vs G1 H1 rs S1 rv f1 bd => by
    have R1 := R.toGd.step S1
    split at f1
    · obtain ⟨x, rfl, rx⟩ := rw1 rv
      obtain ⟨a, xs, rfl, g, dd⟩ := rwLst rx
      have ha : SqL X.K H1 a xs := .inl (.inl (R1.sub _ _ g))
      refine ⟨a, xs, rfl, ha, q _ G1 H1 _ S1 (walk_e g dd) ?_ f1⟩
      rw [enumD_len, ← dpLen dd]
      exact bd.l _ _ ha
    · exact f1.elim⟩
end

/-! ### targets -/
abbrev WG := W → Rh → (Rh → Prop) → Prop
abbrev WGs := List D → Rh → (Rh → Prop) → Prop
structure Kept (sl : List Nat) (σ σ' : L2.St) (ρ ρ' : Rh) : Prop where
  own : ∀ b, Own σ' ρ' b → Own σ ρ b
  out : ∀ j, j ∉ sl → σ'[j]? = σ[j]?
  len : σ'.length = σ.length
theorem Kept.refl {sl : List Nat} {σ : L2.St} {ρ : Rh} : Kept sl σ σ ρ ρ := ⟨fun _ h => h, fun _ _ => rfl, rfl⟩
theorem Kept.trans {sl : List Nat} {σ σ1 σ2 : L2.St} {ρ ρ1 ρ2 : Rh} (a : Kept sl σ σ1 ρ ρ1) (b : Kept sl σ1 σ2 ρ1 ρ2) : Kept sl σ σ2 ρ ρ2 :=
  ⟨fun c h => a.own c (b.own c h), fun j h => (b.out j h).trans (a.out j h), b.len.trans a.len⟩
theorem Kept.mono {sl sl' : List Nat} {σ σ' : L2.St} {ρ ρ' : Rh} (a : Kept sl σ σ' ρ ρ') (h : ∀ j ∈ sl, j ∈ sl') : Kept sl' σ σ' ρ ρ' := ⟨a.own, fun j hj => a.out j fun z => hj (h j z), a.len⟩
def SoG (K : PySem.W.Frag) (g : TG) (w : WG) (sl : List Nat) : Prop := ∀ (EX : Ext) (G H : Hp) (σ : L2.St) (ρ : Rh) (v : V) (r : W) (Φ : Rh → Prop), Rel K EX G H σ ρ → Rw K EX G v r → w r ρ Φ →
  ∀ Q : L2.St → Hp → Prop, (∀ σ' ρ', Rel K EX G H σ' ρ' → Kept sl σ σ' ρ ρ' → Φ ρ' → Q σ' H) → g v σ H Q
structure MG (X : Cx) (tg : Expr) (g : TG) (w : WG) (sl : List Nat) : Prop where
  pg : PG X tg g
  so : SoG X.K g w sl
def SoGs (K : PySem.W.Frag) (g : TGs) (w : WGs) (sl : List Nat) : Prop := ∀ (EX : Ext) (G H : Hp) (σ : L2.St) (ρ : Rh) (vs : List V) (ds : List D) (Φ : Rh → Prop), Rel K EX G H σ ρ → DdAll K G vs ds → w ds ρ Φ →
  ∀ Q : L2.St → Hp → Prop, (∀ σ' ρ', Rel K EX G H σ' ρ' → Kept sl σ σ' ρ ρ' → Φ ρ' → Q σ' H) → g vs σ H Q
structure MGs (X : Cx) (ts : List Expr) (g : TGs) (w : WGs) (sl : List Nat) : Prop where
  pg : PGs X ts g
  so : SoGs X.K g w sl
/-- a slot is given a value -/
theorem Rel.set {K : PySem.W.Frag} {EX : Ext} {G H : Hp} {σ : L2.St} {ρ : Rh} (R : Rel K EX G H σ ρ) (i : Nat) {v : V} {r : W} (h : Rw K EX G v r) : Rel K EX G H (σ.set i (some v)) (ρ.set i (.sh r)) where
  toGd := R.toGd
  sl := fun j s e => by
    by_cases hj : j = i
    · subst hj
      have hl : j < ρ.length := by
        have := (List.getElem?_eq_some_iff.mp e).1
        simpa using this
      rw [List.getElem?_set_self hl] at e
      cases e
      rw [List.getElem?_set_self (by rw [R.len]; exact hl)]
      exact slSh h
    · rw [List.getElem?_set_ne (Ne.symm hj)] at e ⊢
      exact R.sl j s e
  df := fun j k m m' a1 a2 b e e' q1 q2 b1 b2 => by
    have hj : j ≠ i := fun z => by
      subst z
      have hl : j < ρ.length := by
        have := (List.getElem?_eq_some_iff.mp e).1
        simpa using this
      rw [List.getElem?_set_self hl] at e
      cases e
    have hk : k ≠ i := fun z => by
      subst z
      have hl : k < ρ.length := by
        have := (List.getElem?_eq_some_iff.mp e').1
        simpa using this
      rw [List.getElem?_set_self hl] at e'
      cases e'
    rw [List.getElem?_set_ne (Ne.symm hj)] at e q1
    rw [List.getElem?_set_ne (Ne.symm hk)] at e' q2
    exact R.df j k m m' a1 a2 b e e' q1 q2 b1 b2
  len := by rw [List.length_set, List.length_set, R.len]
theorem own_set {σ : L2.St} {ρ : Rh} {i : Nat} {v : Option V} {r : W} {b : Addr} (h : Own (σ.set i v) (ρ.set i (.sh r)) b) : Own σ ρ b := by
  obtain ⟨j, m, a, e1, e2, e3⟩ := h
  have hj : j ≠ i := fun z => by
    subst z
    have hl : j < ρ.length := by
      have := (List.getElem?_eq_some_iff.mp e1).1
      simpa using this
    rw [List.getElem?_set_self hl] at e1
    cases e1
  rw [List.getElem?_set_ne (Ne.symm hj)] at e1 e2
  exact ⟨j, m, a, e1, e2, e3⟩
theorem kept_set {σ : L2.St} {ρ : Rh} (i : Nat) {v : Option V} {r : W} : Kept [i] σ (σ.set i v) ρ (ρ.set i (.sh r)) :=
  ⟨fun _ h => own_set h, fun j hj => List.getElem?_set_ne (Ne.symm (by simpa using hj)), List.length_set⟩
def wgName (i : Nat) : WG := fun r ρ Φ => Φ (ρ.set i (.sh r))
section
variable {X : Cx} {pos : Pos}
theorem mg_name (i : Nat) {x : Str} (hN : X.N.Nodup) (hi : X.N[i]? = some x := by rfl) (hx : Loc X.env.scope x := by first | exact Or.inl rfl | exact Or.inr rfl) (hf : X.fn x = true ∨ X.env.scope.names.lookup x = some .local := by first | exact .inl rfl | exact .inr rfl) :
    MG X (.Name x pos) (gName i) (wgName i) [i] := ⟨pg_name hN hi hx hf, fun EX G H σ ρ v r Φ R rv f Q q => q _ _ (R.set i rv) (kept_set i) f⟩
def wgNil : WGs := fun ds ρ Φ => ds = [] ∧ Φ ρ
def wgCons (w : WG) (u : WGs) : WGs := fun ds ρ Φ => match ds with
  | d :: r => w (.d d) ρ fun ρ' => u r ρ' Φ
  | [] => False
theorem mgs_nil : MGs X [] gNil wgNil [] := ⟨pgs_nil, fun EX G H σ ρ vs ds Φ R dd f Q q => by
  obtain ⟨rfl, f⟩ := f
  cases dd
  exact ⟨rfl, q σ ρ R Kept.refl f⟩⟩
theorem mgs_cons {e : Expr} {es : List Expr} {g : TG} {gs : TGs} {w : WG} {u : WGs} {sl sl' : List Nat} (h : MG X e g w sl) (h2 : MGs X es gs u sl')
    (hs : (assignEach (e :: es) X.env).map (·.2) = assign e X.env :: (assignEach es X.env).map (·.2) := by rfl) : MGs X (e :: es) (gCons g gs) (wgCons w u) (sl ++ sl') := ⟨pgs_cons h.pg h2.pg hs, fun EX G H σ ρ vs ds Φ R dd f Q q => by
  cases ds with
  | nil => exact False.elim f
  | cons d r =>
    cases dd with
    | cons d1 d2 =>
      refine ⟨_, _, rfl, h.so EX G H σ ρ _ (.d d) _ R d1 f _ fun σ1 ρ1 R1 k1 f1 => h2.so EX G H σ1 ρ1 _ r _ R1 d2 f1 _ fun σ2 ρ2 R2 k2 f2 => ?_⟩
      exact q σ2 ρ2 R2 ((k1.mono fun j hj => List.mem_append_left _ hj).trans (k2.mono fun j hj => List.mem_append_right _ hj)) f2⟩
def wgTup (n : Nat) (u : WGs) : WG := fun r ρ Φ => match r with
  | .d (.tuple ds) => ds.length = n ∧ u ds ρ Φ
  | _ => False
theorem mg_tup {es : List Expr} {k n : Nat} {gs : TGs} {u : WGs} {sl : List Nat} (h : MGs X es gs u sl) (hc : X.calm = true := by rfl) (hn : (assignEach es X.env).length = n := by rfl) (hst : (assignEach es X.env).findIdx? (·.1) = none := by rfl) :
    MG X (.Tuple es k pos) (gTup X.K n gs) (wgTup n u) sl := ⟨pg_tup hc h.pg hn hst, fun EX G H σ ρ v r Φ R rv f Q q => by
  unfold wgTup at f
  split at f
  · obtain ⟨a, xs, e, g, dd⟩ := rwTup rv
    exact ⟨a, xs, e, .inl (.inl (R.sub _ _ g)), by rw [dpLen dd]; exact f.1, h.so EX G H σ ρ xs _ Φ R dd f.2 Q q⟩
  · exact f.elim⟩
end
end Pd
end

section
set_option Elab.async false
set_option linter.all false
set_option maxRecDepth 100000
set_option autoImplicit false
set_option maxHeartbeats 1000000
/-! Pd, comprehensions; statements -/
namespace Pd
open PySem PySem.Spec PyProof.Rows L2

/-! ### comprehensions -/
def wipeR (ρ : Rh) : List Nat → Rh
  | [] => ρ
  | v :: vs => (wipeR ρ vs).set v .un
theorem wipeR_length (ρ : Rh) : ∀ vs : List Nat, (wipeR ρ vs).length = ρ.length
  | [] => rfl
  | v :: vs => by unfold wipeR; rw [List.length_set, wipeR_length ρ vs]
theorem wipeR_in {ρ : Rh} {i : Nat} {s : Sl} : ∀ {vs : List Nat}, (wipeR ρ vs)[i]? = some s → s = .un ∨ (i ∉ vs ∧ ρ[i]? = some s)
  | [], h => .inr ⟨by simp, h⟩
  | v :: vs, h => by
    unfold wipeR at h
    by_cases e : i = v
    · subst e
      have hl : i < (wipeR ρ vs).length := by
        have := (List.getElem?_eq_some_iff.mp h).1
        simpa using this
      rw [List.getElem?_set_self hl] at h
      cases h
      exact .inl rfl
    · rw [List.getElem?_set_ne (Ne.symm e)] at h
      rcases wipeR_in h with q | ⟨q1, q2⟩
      · exact .inl q
      · exact .inr ⟨by simp [e, q1], q2⟩
theorem Rel.wipe {K : PySem.W.Frag} {EX : Ext} {G H : Hp} {σ : L2.St} {ρ : Rh} (R : Rel K EX G H σ ρ) (vs : List Nat) : Rel K EX G H (wipe σ vs) (wipeR ρ vs) where
  toGd := R.toGd
  sl := fun i s e => by
    rcases wipeR_in e with rfl | ⟨q1, q2⟩
    · exact slUn
    · rw [wipe_out q1]
      exact R.sl i s q2
  df := fun i j m m' a1 a2 b e e' q p b1 b2 => by
    rcases wipeR_in e with z | ⟨q1, q2⟩
    · cases z
    · rcases wipeR_in e' with z | ⟨q3, q4⟩
      · cases z
      · rw [wipe_out q1] at q
        rw [wipe_out q3] at p
        exact R.df i j m m' a1 a2 b q2 q4 q p b1 b2
  len := by rw [wipe_length, wipeR_length, R.len]
theorem wipe_same {σ σ' : L2.St} {sl vs : List Nat} (h : ∀ j, j ∉ sl → σ'[j]? = (wipe σ vs)[j]?) (hl : σ'.length = (wipe σ vs).length) (hs : ∀ j ∈ sl, j ∈ vs) : wipe σ' vs = wipe σ vs := by
  have key : ∀ (τ : L2.St) (us : List Nat) (j : Nat), j ∈ us → j < τ.length → (wipe τ us)[j]? = some none := by
    intro τ us
    induction us with
    | nil => intro j hj; cases hj
    | cons u us ih =>
      intro j hj hl
      unfold wipe
      by_cases e : j = u
      · subst e
        rw [List.getElem?_set_self (by rw [wipe_length]; exact hl)]
      · rw [List.getElem?_set_ne (Ne.symm e)]
        exact ih j ((List.mem_cons.mp hj).resolve_left e) hl
  refine List.ext_getElem? fun j => ?_
  by_cases hj : j ∈ vs
  · by_cases hb : j < σ.length
    · rw [key σ vs j hj hb, key σ' vs j hj (by rw [hl, wipe_length]; exact hb)]
    · rw [List.getElem?_eq_none (by rw [wipe_length, hl, wipe_length]; omega), List.getElem?_eq_none (by rw [wipe_length]; omega)]
  · rw [wipe_out hj]
    exact h j fun z => hj (hs j z)
def compW (wg : WG) (wt : WT) (we : WE) : List D → Rh → List D → (List D → Prop) → Prop
  | [], _, acc, Φ => Φ acc
  | d :: ds, ρ, acc, Φ => wg (.d d) ρ fun ρ' => wt ρ' fun k => if k = true then we ρ' fun r => (match r with
      | .d x => compW wg wt we ds ρ (acc ++ [x]) Φ
      | _ => False) else compW wg wt we ds ρ acc Φ
def wLc (wi : WD) (wg : WG) (wt : WT) (we : WE) (vs : List Nat) : WD := fun ρ Φ => wi ρ fun ds => compW wg wt we ds (wipeR ρ vs) [] Φ
theorem Step.cell {EX : Ext} {G H G1 H1 : Hp} {D : Addr} {o : HO} (S : Step EX G H G1 H1) (hD : H D = none) (hb : ¬ EX D .box) (hg : G1 D = none) : Step EX G H G1 (upd H1 D o) where
  st := fun b u h => by
    rcases S.st b u h with z | z
    · exact .inl z
    · refine .inr ?_
      rw [upd_ne (ne_of_none h hD)]
      exact z
  bx := fun b h => by
    have e : b ≠ D := fun e => hb (e ▸ h)
    obtain ⟨i, j, k, q⟩ := S.bx b h
    exact ⟨i, j, k, by rw [upd_ne e]; exact q⟩
  gg := S.gg
  sub := fun b u h => by
    have e : b ≠ D := fun e => by rw [e, hg] at h; cases h
    rw [upd_ne e]
    exact S.sub b u h
  gn := S.gn
  ex := S.ex
theorem so_lc {K : PySem.W.Frag} {wi : TI} {g : TG} {tt : TT} {te : TE} {vs sl : List Nat} {ui : WD} {ug : WG} {ut : WT} {ue : WE} (hi : SoI K wi ui) (hg : SoG K g ug sl) (ht : SoT K tt ut) (he : SoE K te ue) (hs : ∀ j ∈ sl, j ∈ vs) :
    SoL K (tLc wi g tt te vs) (wLc ui ug ut ue vs) := fun EX G H σ ρ Φ R f Q q => hi EX G H σ ρ _ R f _ fun J G1 H1 ds S1 Wk hz f1 => by
  intro D hD
  have R1 := R.toGd.step S1
  have nb := R1.notBox hD
  have gD := R1.free hD
  refine ⟨fun i m H' => m = ds.length - i ∧ i ≤ ds.length ∧ ∃ Gc acc us, Step EX G1 H1 Gc H' ∧ H' D = some (.lst us) ∧ DdAll K Gc us acc ∧ Gc D = none ∧ acc.length ≤ i ∧ compW ug ut ue (ds.drop i) (wipeR ρ vs) acc Φ,
    ⟨ds.length, rfl, Nat.zero_le _, G1, [], [], R1.newOut hD, upd_same, .nil, gD, Nat.le_refl _, by rw [List.drop_zero]; exact f1⟩, ?_⟩
  rintro i m H' ⟨rfl, hi', Gc, acc, us, S2, hH, da, gc, hl, cw⟩
  have R2 := R1.step S2
  obtain ⟨w1, w2⟩ := Wk EX Gc H' (fun _ _ h => h) S2.gg R2 i
  by_cases hlt : i < ds.length
  · have e : ds[i]? = some ds[i] := List.getElem?_eq_getElem hlt
    obtain ⟨go, w3⟩ := w2 _ e
    refine .inr ⟨go, fun H'' => i + 1 ≤ ds.length ∧ ∃ Gc acc us, Step EX G1 H1 Gc H'' ∧ H'' D = some (.lst us) ∧ DdAll K Gc us acc ∧ Gc D = none ∧ acc.length ≤ i + 1 ∧ compW ug ut ue (ds.drop (i + 1)) (wipeR ρ vs) acc Φ, fun H'' ⟨n1, n2⟩ => ⟨ds.length - (i + 1), by omega, rfl, n1, n2⟩, fun x H3 hy => ?_⟩
    obtain ⟨G3, S3, dx⟩ := w3 x H3 hy
    rw [List.drop_eq_getElem_cons hlt] at cw
    have Rr := ((R.step S1).step S2).step S3
    refine hg EX G3 H3 _ _ x (.d ds[i]) _ (Rr.wipe vs) dx cw _ fun σ' ρ' R' k' f2 => ⟨wipe_same (sl := sl) k'.out k'.len hs, ?_⟩
    have S123 := S2.trans S3
    have keep : ∀ {G4 H4 : Hp}, Step EX G3 H3 G4 H4 → H4 D = some (.lst us) ∧ G4 D = none := fun {G4 H4} S4 => by
      have h3 : H3 D = some (.lst us) := (S3.st D _ hH).resolve_left nb
      refine ⟨(S4.st D _ h3).resolve_left nb, ?_⟩
      cases z : G4 D with
      | none => rfl
      | some o =>
        rcases S4.gn D o z with y | y
        · rcases S3.gn D o y with y | y
          · rw [gc] at y; cases y
          · rw [hH] at y; cases y
        · rw [h3] at y; cases y
    refine ht EX G3 H3 σ' ρ' _ R' f2 _ fun b G4 H4 S4 f3 => ?_
    cases b with
    | false =>
      simp only [Bool.false_eq_true, if_false] at f3 ⊢
      obtain ⟨k1, k2⟩ := keep S4
      exact ⟨hlt, G4, acc, us, S123.trans S4, k1, dpsMono (S3.trans S4).gg _ _ da, k2, by omega, f3⟩
    | true =>
      simp only [if_true] at f3 ⊢
      refine he EX G4 H4 σ' ρ' _ (R'.step S4) f3 _ fun y G5 H5 r S5 ry f4 => ?_
      obtain ⟨k1, k2⟩ := keep (S4.trans S5)
      split at f4
      · rename_i z
        refine ⟨us, k1, by rw [dpLen da]; omega, hlt, G5, acc ++ [z], us ++ [y], ((S123.trans S4).trans S5).cell hD nb k2, upd_same, dpApp (dpsMono ((S3.trans S4).trans S5).gg _ _ da) (dpOne ry), k2, by rw [List.length_append]; simp; omega, f4⟩
      · exact f4.elim
  · have e : i = ds.length := by omega
    subst e
    rw [List.drop_length] at cw
    have S := S1.trans S2
    have hD0 : H D = none := S1.fresh hD
    exact .inl ⟨w1 (Nat.le_refl _), q D us Gc H' acc S hD0 gc nb hH da cw⟩
section
variable {X : Cx} {e tg iter elt a b c : Expr} {es : List Expr} {pos pos' spos : Pos}
/-- a clause's tests: none, one -/
structure MTs (X : Cx) (ifs : List Expr) (t : TT) (w : WT) : Prop where
  pt : PTs X ifs t
  so : SoT X.K t w
def wYes : WT := fun _ Φ => Φ true
theorem mts_nil : MTs X [] tYes wYes := ⟨pts_nil, fun EX G H σ ρ Φ R f Q q => q true G H R.refl f⟩
theorem mts_one {t : TT} {w : WT} (h : MT X c t w) : MTs X [c] t w := ⟨pts_one h.pt, h.so⟩
theorem ml_lc {ifs : List Expr} {scope : Scope} {wi : TI} {g : TG} {tt : TT} {te : TE} {ui : WD} {ug : WG} {ut : WT} {ue : WE} {sl : List Nat} (own : List (Str × Nat)) (hN : X.N.Nodup) (hi : MI X tg iter wi ui) (ok : BlkOk X.N X.env.scope scope own)
    (hg : ∀ (s : Shared) (H : Hp) (C : Addr) (cl : List (Str × Addr)) (fp : List Addr), MG (X.blk s H scope (compEnvC scope cl C X.env) fp) tg g ug sl)
    (ht : ∀ (s : Shared) (H : Hp) (C : Addr) (cl : List (Str × Addr)) (fp : List Addr), MTs (X.blk s H scope (compEnvC scope cl C X.env) fp) ifs tt ut)
    (he : ∀ (s : Shared) (H : Hp) (C : Addr) (cl : List (Str × Addr)) (fp : List Addr), ME (X.blk s H scope (compEnvC scope cl C X.env) fp) elt te ue)
    (hsl : ∀ j ∈ sl, j ∈ own.map (·.2) := by decide) (hc : X.calm = true := by rfl) (hs : ∀ x, foldedSetIterable iter X.env x = pure x := by intro _; rfl) :
    ML X (.ListComp elt [⟨tg, iter, ifs, 0⟩] scope pos) (tLc wi g tt te (own.map (·.2))) (wLc ui ug ut ue (own.map (·.2))) :=
  ⟨pe_lc hc hN hi.pi ok (fun s H C cl fp => (hg s H C cl fp).pg) (fun s H C cl fp => (ht s H C cl fp).pt) (fun s H C cl fp => (he s H C cl fp).pe) hs,
    so_lc hi.so (hg {} (fun _ => none) 0 [] []).so (ht {} (fun _ => none) 0 [] []).so (he {} (fun _ => none) 0 [] []).so hsl⟩
end
end Pd
end

section
set_option Elab.async false
set_option linter.all false
set_option maxRecDepth 100000
set_option autoImplicit false
set_option maxHeartbeats 1000000
/-! Pd, statements -/
namespace Pd
open PySem PySem.Spec PyProof.Rows L2

/-- an exception as data: its class's name, its fields in order -/
structure Xn where
  cls : Str
  fs : List (Str × D)
/-- what is wanted of an exception at slots, still part, heap -/
abbrev XI := Xn → L2.St → Hp → Hp → Prop
structure Ps where
  nx : Rh → Prop
  rt : W → Prop
  bk : Rh → Prop
  ct : Rh → Prop
  ex : Xn → Rh → Prop
variable {ξ : XI}
abbrev WS := Rh → Ps → Prop
/-- from a statement's start to its end; O: what the slots owned -/
structure SStep (EX : Ext) (O : Addr → Prop) (G H : Hp) (EX' : Ext) (G' H' : Hp) : Prop where
  st : ∀ b o, H b = some o → EX b .box ∨ O b ∨ H' b = some o
  bb : ∀ b k, EX b k → EX' b k
  bn : ∀ b, EX' b .box → EX b .box ∨ H b = none ∨ O b
  gg : Same G G'
  gn : ∀ b o, G' b = some o → G b = some o ∨ H b = none ∨ O b
structure EndsOk (K : PySem.W.Frag) (ξ : XI) (EX : Ext) (O : Addr → Prop) (G H : Hp) (P : Ps) (D : Ends) : Prop where
  nx : ∀ EX' G' H' σ' ρ', SStep EX O G H EX' G' H' → Rel K EX' G' H' σ' ρ' → (∀ b, Own σ' ρ' b → O b ∨ H b = none) → P.nx ρ' → D.nx σ' H'
  bk : ∀ EX' G' H' σ' ρ', SStep EX O G H EX' G' H' → Rel K EX' G' H' σ' ρ' → (∀ b, Own σ' ρ' b → O b ∨ H b = none) → P.bk ρ' → D.bk σ' H'
  ct : ∀ EX' G' H' σ' ρ', SStep EX O G H EX' G' H' → Rel K EX' G' H' σ' ρ' → (∀ b, Own σ' ρ' b → O b ∨ H b = none) → P.ct ρ' → D.ct σ' H'
  rt : ∀ EX' G' H' v r, SStep EX O G H EX' G' H' → Gd K EX' G' H' → Rw K EX' G' v r → P.rt r → D.rt v H'
  ex : ∀ EX' G' H' σ' ρ' x, SStep EX O G H EX' G' H' → Rel K EX' G' H' σ' ρ' → (∀ b, Own σ' ρ' b → O b ∨ H b = none) → P.ex x ρ' → ξ x σ' G' H'
def SoS (K : PySem.W.Frag) (ξ : XI) (t : TS) (w : WS) : Prop := ∀ (EX : Ext) (G H : Hp) (σ : L2.St) (ρ : Rh) (P : Ps), Rel K EX G H σ ρ → w ρ P → ∀ D : Ends, EndsOk K ξ EX (Own σ ρ) G H P D → t D σ H
structure MS (X : Cx) (ξ : XI) (st : Stmt) (t : TS) (w : WS) : Prop where
  ps : PS X st t
  so : SoS X.K ξ t w
structure MSs (X : Cx) (ξ : XI) (st : List Stmt) (t : TS) (w : WS) : Prop where
  ps : PSs X st t
  so : SoS X.K ξ t w

section
variable {K : PySem.W.Frag} {EX EX1 EX2 : Ext} {G H G1 H1 G2 H2 : Hp} {σ σ1 : L2.St} {ρ ρ1 : Rh} {O O1 : Addr → Prop} {P : Ps} {D : Ends}
theorem SStep.refl : SStep EX O G H EX G H := ⟨fun _ _ h => .inr (.inr h), fun _ _ h => h, fun _ h => .inl h, Same.refl G, fun _ _ h => .inl h⟩
theorem Step.s (S : Step EX G H G1 H1) : SStep EX O G H EX G1 H1 := ⟨fun b o h => (S.st b o h).imp _root_.id .inr, fun _ _ h => h, fun _ h => .inl h, S.gg, fun b o h => (S.gn b o h).imp _root_.id .inl⟩
theorem SStep.fresh (a : SStep EX O G H EX1 G1 H1) (bx : ∀ b, EX1 b .box → BoxAt H1 b) {p : Addr} (h : H1 p = none) : H p = none ∨ O p := by
  cases e : H p with
  | none => exact .inl rfl
  | some u =>
    rcases a.st p u e with z | z | z
    · obtain ⟨o', z'⟩ := boxThere (bx p (a.bb p _ z))
      rw [h] at z'; cases z'
    · exact .inr z
    · rw [h] at z; cases z
theorem SStep.trans (a : SStep EX O G H EX1 G1 H1) (R : Gd K EX1 G1 H1) (o : ∀ b, O1 b → O b ∨ H b = none) (b : SStep EX1 O1 G1 H1 EX2 G2 H2) : SStep EX O G H EX2 G2 H2 where
  st := fun c u h => by
    rcases a.st c u h with q | q | q
    · exact .inl q
    · exact .inr (.inl q)
    · rcases b.st c u q with z | z | z
      · rcases a.bn c z with y | y | y
        · exact .inl y
        · rw [h] at y; cases y
        · exact .inr (.inl y)
      · rcases o c z with y | y
        · exact .inr (.inl y)
        · rw [h] at y; cases y
      · exact .inr (.inr z)
  bb := fun c k h => b.bb c k (a.bb c k h)
  bn := fun c h => by
    rcases b.bn c h with q | q | q
    · exact a.bn c q
    · rcases a.fresh R.bx q with z | z
      · exact .inr (.inl z)
      · exact .inr (.inr z)
    · rcases o c q with y | y
      · exact .inr (.inr y)
      · exact .inr (.inl y)
  gg := a.gg.trans b.gg
  gn := fun c u h => by
    rcases b.gn c u h with q | q | q
    · exact a.gn c u q
    · rcases a.fresh R.bx q with z | z
      · exact .inr (.inl z)
      · exact .inr (.inr z)
    · rcases o c q with y | y
      · exact .inr (.inr y)
      · exact .inr (.inl y)
theorem own_trans (a : SStep EX O G H EX1 G1 H1) (R : Gd K EX1 G1 H1) (o : ∀ b, O1 b → O b ∨ H b = none) {O2 : Addr → Prop} (h : ∀ b, O2 b → O1 b ∨ H1 b = none) : ∀ b, O2 b → O b ∨ H b = none := fun b q => by
  rcases h b q with z | z
  · exact o b z
  · exact (a.fresh R.bx z).symm
theorem EndsOk.from (E : EndsOk K ξ EX O G H P D) (S : SStep EX O G H EX1 G1 H1) (R : Gd K EX1 G1 H1) (o : ∀ b, O1 b → O b ∨ H b = none) : EndsOk K ξ EX1 O1 G1 H1 P D where
  nx := fun EX' G' H' σ' ρ' S' R' o' h => E.nx EX' G' H' σ' ρ' (S.trans R o S') R' (own_trans S R o o') h
  bk := fun EX' G' H' σ' ρ' S' R' o' h => E.bk EX' G' H' σ' ρ' (S.trans R o S') R' (own_trans S R o o') h
  ct := fun EX' G' H' σ' ρ' S' R' o' h => E.ct EX' G' H' σ' ρ' (S.trans R o S') R' (own_trans S R o o') h
  rt := fun EX' G' H' v r S' R' rv h => E.rt EX' G' H' v r (S.trans R o S') R' rv h
  ex := fun EX' G' H' σ' ρ' x S' R' o' h => E.ex EX' G' H' σ' ρ' x (S.trans R o S') R' (own_trans S R o o') h
/-- behind an expression -/
theorem EndsOk.step (E : EndsOk K ξ EX O G H P D) (R : Gd K EX G H) (S : Step EX G H G1 H1) : EndsOk K ξ EX O G1 H1 P D := E.from S.s (R.step S) fun _ h => .inl h
end

section
variable {X : Cx} {st : Stmt} {rest : List Stmt} {t u : TS} {w v : WS} {e : Expr} {te : TE} {we : WE} {pos : Pos}
def wSeq2 (w v : WS) : WS := fun ρ P => w ρ { P with nx := fun ρ' => v ρ' P }
def wNext : WS := fun ρ P => P.nx ρ
theorem so_seq {K : PySem.W.Frag} (h : SoS K ξ t w) (h2 : SoS K ξ u v) : SoS K ξ (tSeq t u) (wSeq2 w v) := fun EX G H σ ρ P R f D E =>
  h EX G H σ ρ _ R f _ ⟨fun EX' G' H' σ' ρ' S R' o q => h2 EX' G' H' σ' ρ' P R' q D (E.from S R'.toGd o), E.bk, E.ct, E.rt, E.ex⟩
theorem mss_cons (h : MS X ξ st t w) (h2 : MSs X ξ rest u v) : MSs X ξ (st :: rest) (tSeq t u) (wSeq2 w v) := ⟨pss_cons h.ps h2.ps, so_seq h.so h2.so⟩
theorem mss_one (h : MS X ξ st t w) : MSs X ξ [st] t w := ⟨pss_one h.ps, h.so⟩
theorem so_next {K : PySem.W.Frag} : SoS K ξ tNext wNext := fun EX G H σ ρ P R f D E => E.nx EX G H σ ρ .refl R (fun _ h => .inl h) f
theorem mss_nil : MSs X ξ [] tNext wNext := ⟨pss_nil, so_next⟩
theorem ms_pass : MS X ξ (.Pass pos) tNext wNext := ⟨ps_pass, so_next⟩
theorem ms_break : MS X ξ (.Break pos) tBreak (fun ρ P => P.bk ρ) := ⟨ps_break, fun EX G H σ ρ P R f D E => E.bk EX G H σ ρ .refl R (fun _ h => .inl h) f⟩
theorem ms_continue : MS X ξ (.Continue pos) tCont (fun ρ P => P.ct ρ) := ⟨ps_continue, fun EX G H σ ρ P R f D E => E.ct EX G H σ ρ .refl R (fun _ h => .inl h) f⟩
theorem ms_never : MS X ξ st tNever (fun _ _ => False) := ⟨ps_never, fun _ _ _ _ _ _ _ f _ _ => f.elim⟩
def wRet (we : WE) : WS := fun ρ P => we ρ P.rt
theorem ms_ret (h : ME X e te we) : MS X ξ (.Return (some e) pos) (tRet te) (wRet we) := ⟨ps_ret h.pe, fun EX G H σ ρ P R f D E => h.so EX G H σ ρ _ R f _ fun v G1 H1 r S rv f1 => E.rt EX G1 H1 v r S.s (R.toGd.step S) rv f1⟩
theorem ms_retN : MS X ξ (.Return none pos) tRetN (fun _ P => P.rt (.d .none)) := ⟨ps_retN, fun EX G H σ ρ P R f D E => E.rt EX G H .non (.d .none) .refl R.toGd Dd.non f⟩
def wDrop (we : WE) : WS := fun ρ P => we ρ fun _ => P.nx ρ
theorem ms_expr (h : ME X e te we) (hs : swapsWith e none pos.line X.env = pure false := by rfl) : MS X ξ (.Expr e pos) (tDrop te) (wDrop we) := ⟨ps_expr h.pe hs, fun EX G H σ ρ P R f D E => h.so EX G H σ ρ _ R f _ fun v G1 H1 r S rv f1 => E.nx EX G1 H1 σ ρ S.s (R.step S) (fun _ h => .inl h) f1⟩
def wIfS (c : WT) (w v : WS) : WS := fun ρ P => c ρ fun k => if k = true then w ρ P else v ρ P
theorem ms_if {c : Expr} {a b : List Stmt} {tc : TT} {wc : WT} (hc : MT X c tc wc) (ha : MSs X ξ a t w) (hb : MSs X ξ b u v) : MS X ξ (.If c a b pos) (tIfS tc t u) (wIfS wc w v) := ⟨ps_if hc.pt ha.ps hb.ps, fun EX G H σ ρ P R f D E =>
  hc.so EX G H σ ρ _ R f _ fun k G1 H1 S f1 => by
    cases k with
    | true =>
      simp only [if_true] at f1 ⊢
      exact ha.so EX G1 H1 σ ρ P (R.step S) f1 D (E.step R.toGd S)
    | false =>
      simp only [Bool.false_eq_true, if_false] at f1 ⊢
      exact hb.so EX G1 H1 σ ρ P (R.step S) f1 D (E.step R.toGd S)⟩
/-- name = e -/
def wSet (i : Nat) (we : WE) : WS := fun ρ P => we ρ fun r => P.nx (ρ.set i (.sh r))
theorem so_set {K : PySem.W.Frag} {i : Nat} (h : SoE K te we) : SoS K ξ (tAsg te (gName i)) (wSet i we) := fun EX G H σ ρ P R f D E => h EX G H σ ρ _ R f _ fun v G1 H1 r S rv f1 =>
  E.nx EX G1 H1 _ _ S.s ((R.step S).set i rv) (fun b q => .inl (own_set q)) f1
theorem ms_set (i : Nat) {x : Str} {pos' : Pos} (hN : X.N.Nodup) (he : ME X e te we) (hi : X.N[i]? = some x := by rfl) (hx : Loc X.env.scope x := by first | exact Or.inl rfl | exact Or.inr rfl) (hs : swapsWith e (some (.Name x pos')) pos.line X.env = pure false := by rfl)
    (hf : X.fn x = true ∨ X.env.scope.names.lookup x = some .local := by first | exact .inl rfl | exact .inr rfl) : MS X ξ (.Assign [.Name x pos'] e pos) (tAsg te (gName i)) (wSet i we) := ⟨ps_set hN hi hx he.pe hs hf, so_set he.so⟩
/-- a slot is given a list or dict of its own -/
theorem Rel.setMu {K : PySem.W.Frag} {EX : Ext} {G H : Hp} {σ : L2.St} {ρ : Rh} (R : Rel K EX G H σ ρ) (i : Nat) {a : Addr} {m : Mu} (g : ∀ b ∈ m.owns a, G b = none ∧ ¬ EX b .box) (h : MuAt K G H a m) (no : ∀ b ∈ m.owns a, ¬ Own σ ρ b) : Rel K EX G H (σ.set i (some (.ref a))) (ρ.set i (.mu m)) where
  toGd := R.toGd
  sl := fun j s e => by
    by_cases hj : j = i
    · subst hj
      have hl : j < ρ.length := by
        have := (List.getElem?_eq_some_iff.mp e).1
        simpa using this
      rw [List.getElem?_set_self hl] at e
      cases e
      rw [List.getElem?_set_self (by rw [R.len]; exact hl)]
      exact slMu g h
    · rw [List.getElem?_set_ne (Ne.symm hj)] at e ⊢
      exact R.sl j s e
  df := fun j k m1 m2 a1 a2 b e e' q1 q2 b1 b2 => by
    have lt : ∀ {j : Nat} {s : Sl}, (ρ.set i (.mu m))[j]? = some s → j < ρ.length := fun e => by
      have := (List.getElem?_eq_some_iff.mp e).1
      simpa using this
    by_cases hj : j = i
    · by_cases hk : k = i
      · rw [hj, hk]
      · subst hj
        rw [List.getElem?_set_ne (Ne.symm hk)] at e' q2
        rw [List.getElem?_set_self (lt e)] at e
        rw [List.getElem?_set_self (by rw [R.len]; exact lt (j := j) (s := .mu m) (by rw [List.getElem?_set_self (by have := (List.getElem?_eq_some_iff.mp q1).1; rw [List.length_set, R.len] at this; exact this)]))] at q1
        cases e
        cases q1
        exact absurd ⟨k, m2, a2, e', q2, b2⟩ (no b b1)
    · by_cases hk : k = i
      · subst hk
        rw [List.getElem?_set_ne (Ne.symm hj)] at e q1
        have hl : k < ρ.length := lt e'
        rw [List.getElem?_set_self hl] at e'
        rw [List.getElem?_set_self (by rw [R.len]; exact hl)] at q2
        cases e'
        cases q2
        exact absurd ⟨j, m1, a1, e, q1, b1⟩ (no b b2)
      · rw [List.getElem?_set_ne (Ne.symm hj)] at e q1
        rw [List.getElem?_set_ne (Ne.symm hk)] at e' q2
        exact R.df j k m1 m2 a1 a2 b e e' q1 q2 b1 b2
  len := by rw [List.length_set, List.length_set, R.len]
theorem own_setMu {σ : L2.St} {ρ : Rh} {i : Nat} {a b : Addr} {m : Mu} (hl : σ.length = ρ.length) (h : Own (σ.set i (some (.ref a))) (ρ.set i (.mu m)) b) : b ∈ m.owns a ∨ Own σ ρ b := by
  obtain ⟨j, m', a', e1, e2, e3⟩ := h
  by_cases hj : j = i
  · subst hj
    have hl2 : j < σ.length := by
      have := (List.getElem?_eq_some_iff.mp e2).1
      simpa using this
    rw [List.getElem?_set_self hl2] at e2
    rw [List.getElem?_set_self (by rw [← hl]; exact hl2)] at e1
    cases e2
    cases e1
    exact .inl e3
  · rw [List.getElem?_set_ne (Ne.symm hj)] at e1 e2
    exact .inr ⟨j, m', a', e1, e2, e3⟩
theorem owns_l {a b : Addr} {ds : List D} (h : b ∈ (Mu.l ds).owns a) : b = a := by simpa [Mu.owns, Mu.subs] using h
theorem owns_k {a b : Addr} {ds : List (Key × D)} (h : b ∈ (Mu.k ds).owns a) : b = a := by simpa [Mu.owns, Mu.subs] using h
theorem owns_t {a b : Addr} {ds : List (List Key × D)} (h : b ∈ (Mu.t ds).owns a) : b = a := by simpa [Mu.owns, Mu.subs] using h
def wSetO (i : Nat) (we : WD) : WS := fun ρ P => we ρ fun ds => P.nx (ρ.set i (.mu (.l ds)))
theorem so_setO {K : PySem.W.Frag} {i : Nat} {wd : WD} (h : SoL K te wd) : SoS K ξ (tAsg te (gName i)) (wSetO i wd) := fun EX G H σ ρ P R f D E => h EX G H σ ρ _ R f _ fun a vs G1 H1 ds S ha ga ba h1 dd f1 => by
  have R1 := R.step S
  refine E.nx EX G1 H1 _ _ S.s (R1.setMu i (m := .l ds) (fun b hb => by rw [owns_l hb]; exact ⟨ga, ba⟩) ⟨vs, h1, dd⟩ fun b hb o => ?_) (fun b q => ?_) f1
  · rw [owns_l hb] at o
    obtain ⟨_, _, u, hu, _⟩ := R.ownAt (b := a) o
    rw [ha] at hu; cases hu
  · rcases own_setMu R1.len q with z | z
    · rw [owns_l z]
      exact .inr ha
    · exact .inl z
theorem ms_setO (i : Nat) {x : Str} {pos' : Pos} {wd : WD} (hN : X.N.Nodup) (he : ML X e te wd) (hi : X.N[i]? = some x := by rfl) (hx : Loc X.env.scope x := by first | exact Or.inl rfl | exact Or.inr rfl) (hs : swapsWith e (some (.Name x pos')) pos.line X.env = pure false := by rfl)
    (hf : X.fn x = true ∨ X.env.scope.names.lookup x = some .local := by first | exact .inl rfl | exact .inr rfl) : MS X ξ (.Assign [.Name x pos'] e pos) (tAsg te (gName i)) (wSetO i wd) := ⟨ps_set hN hi hx he.pe hs hf, so_setO he.so⟩
/-- target = e -/
def wAsg (we : WE) (wg : WG) : WS := fun ρ P => we ρ fun r => wg r ρ P.nx
theorem ms_asg {tg : Expr} {g : TG} {wg : WG} {sl : List Nat} (he : ME X e te we) (hg : MG X tg g wg sl) (hs : swapsWithSole [tg] e pos.line X.env = pure false := by rfl) (hw : swappedStores [tg] e X.env = pure none := by rfl)
    (h1 : (assignEach [tg] X.env).map (·.2) = [assign tg X.env] := by rfl) : MS X ξ (.Assign [tg] e pos) (tAsg te g) (wAsg we wg) := ⟨ps_asg he.pe hg.pg hs hw h1, fun EX G H σ ρ P R f D E =>
  he.so EX G H σ ρ _ R f _ fun v G1 H1 r S rv f1 => hg.so EX G1 H1 σ ρ v r _ (R.step S) rv f1 _ fun σ' ρ' R' k f2 => E.nx EX G1 H1 σ' ρ' S.s R' (fun b q => .inl (k.own b q)) f2⟩
/-- name op= e, ints -/
def wAug (i : Nat) (we : WE) (f : Int → Int → Int) : WS := fun ρ P => wVar i ρ fun x => we ρ fun y => match x, y with
  | .d (.int a), .d (.int b) => P.nx (ρ.set i (.sh (.d (.int (f a b)))))
  | _, _ => False
theorem so_aug {K : PySem.W.Frag} {i : Nat} {f : Int → Int → Int} (h : SoE K te we) : SoS K ξ (tAug i te (ipI f)) (wAug i we f) := fun EX G H σ ρ P R q D E => by
  obtain ⟨r, e, q1⟩ := wVar_iff q
  obtain ⟨v, e1, rv⟩ := R.var e
  refine ⟨v, e1, h EX G H σ ρ _ R q1 _ fun u G1 H1 y S ru f1 => ?_⟩
  split at f1
  · rename_i a b
    exact ⟨a, b, rwInt rv, rwInt ru, E.nx EX G1 H1 _ _ S.s ((R.step S).set i (r := .d (.int _)) (Dd.int _)) (fun c z => .inl (own_set z)) f1⟩
  · exact f1.elim
theorem ms_augAdd (i : Nat) {x : Str} {pos' : Pos} (hN : X.N.Nodup) (he : ME X e te we) (hi : X.N[i]? = some x := by rfl) (hx : Loc X.env.scope x := by first | exact Or.inl rfl | exact Or.inr rfl) (hf : X.fn x = true ∨ X.env.scope.names.lookup x = some .local := by first | exact .inl rfl | exact .inr rfl) :
    MS X ξ (.AugAssign (.Name x pos') .Add e pos) (tAug i te (ipI fun i j => i + j)) (wAug i we fun i j => i + j) := ⟨ps_aug hN hi hx he.pe ip_add hf, so_aug he.so⟩
/-! ### for, while -/
def forW (wg : WG) (wb : WS) : List D → Rh → Ps → Prop
  | [], ρ, P => P.nx ρ
  | d :: ds, ρ, P => wg (.d d) ρ fun ρ' => wb ρ' ⟨fun ρ'' => forW wg wb ds ρ'' P, P.rt, P.nx, fun ρ'' => forW wg wb ds ρ'' P, P.ex⟩
def wFor (wi : WD) (wg : WG) (wb : WS) : WS := fun ρ P => wi ρ fun ds => forW wg wb ds ρ P
theorem so_for {K : PySem.W.Frag} {wi : TI} {g : TG} {tb : TS} {ui : WD} {ug : WG} {ub : WS} {sl : List Nat} (hi : SoI K wi ui) (hg : SoG K g ug sl) (hb : SoS K ξ tb ub) : SoS K ξ (tFor wi g tb) (wFor ui ug ub) := fun EX G H σ ρ P R f D E => hi EX G H σ ρ _ R f _ fun J G1 H1 ds S1 Wk hz f1 => by
  have E1 := E.step R.toGd S1
  have R1 := R.step S1
  refine ⟨fun i m σ' H' => m = ds.length - i ∧ i ≤ ds.length ∧ ∃ EX' Gc ρ', SStep EX (Own σ ρ) G1 H1 EX' Gc H' ∧ Rel K EX' Gc H' σ' ρ' ∧ (∀ b, Own σ' ρ' b → Own σ ρ b ∨ H1 b = none) ∧ forW ug ub (ds.drop i) ρ' P,
    ⟨ds.length, rfl, Nat.zero_le _, EX, G1, ρ, .refl, R1, fun _ h => .inl h, by rw [List.drop_zero]; exact f1⟩, ?_⟩
  rintro i m σ' H' ⟨rfl, hi', EX', Gc, ρ', S2, R2, o2, fw⟩
  obtain ⟨w1, w2⟩ := Wk EX' Gc H' S2.bb S2.gg R2.toGd i
  by_cases hlt : i < ds.length
  · have e : ds[i]? = some ds[i] := List.getElem?_eq_getElem hlt
    obtain ⟨go, w3⟩ := w2 _ e
    rw [List.drop_eq_getElem_cons hlt] at fw
    refine .inr ⟨go, fun σ'' H'' => i + 1 ≤ ds.length ∧ ∃ EX' Gc ρ', SStep EX (Own σ ρ) G1 H1 EX' Gc H'' ∧ Rel K EX' Gc H'' σ'' ρ' ∧ (∀ b, Own σ'' ρ' b → Own σ ρ b ∨ H1 b = none) ∧ forW ug ub (ds.drop (i + 1)) ρ' P,
      fun σ'' H'' ⟨n1, n2⟩ => ⟨ds.length - (i + 1), by omega, rfl, n1, n2⟩, fun x H3 hy => ?_⟩
    obtain ⟨G3, S3, dx⟩ := w3 x H3 hy
    refine hg EX' G3 H3 σ' ρ' x (.d ds[i]) _ (R2.step S3) dx fw _ fun σ4 ρ4 R4 k4 f4 => ?_
    have S23 : SStep EX (Own σ ρ) G1 H1 EX' G3 H3 := S2.trans R2.toGd o2 (S3.s (O := Own σ' ρ'))
    have o4 : ∀ b, Own σ4 ρ4 b → Own σ ρ b ∨ H1 b = none := fun b z => o2 b (k4.own b z)
    have E3 : EndsOk K ξ EX' (Own σ4 ρ4) G3 H3 P D := E1.from S23 R4.toGd o4
    refine hb EX' G3 H3 σ4 ρ4 _ R4 f4 _ ⟨fun EX5 G5 H5 σ5 ρ5 S5 R5 o5 f5 => ?_, fun EX5 G5 H5 σ5 ρ5 S5 R5 o5 f5 => E3.nx EX5 G5 H5 σ5 ρ5 S5 R5 o5 f5, fun EX5 G5 H5 σ5 ρ5 S5 R5 o5 f5 => ?_, E3.rt, E3.ex⟩
    · exact ⟨hlt, EX5, G5, ρ5, S23.trans R4.toGd o4 S5, R5, own_trans S23 R4.toGd o4 o5, f5⟩
    · exact ⟨hlt, EX5, G5, ρ5, S23.trans R4.toGd o4 S5, R5, own_trans S23 R4.toGd o4 o5, f5⟩
  · have e : i = ds.length := by omega
    subst e
    rw [List.drop_length] at fw
    exact .inl ⟨w1 (Nat.le_refl _), E1.nx EX' Gc H' σ' ρ' S2 R2 o2 fw⟩
end
end Pd
end

section
set_option Elab.async false
set_option linter.all false
set_option maxRecDepth 100000
set_option autoImplicit false
set_option maxHeartbeats 1000000
/-! Pd, own lists and dicts: lent, frozen, changed -/
namespace Pd
open PySem PySem.Spec PyProof.Rows L2
variable {ξ : XI}

/-! ### lent -/
def muW : Mu → W
  | .l ds => .d (.list ds)
  | .k kvs => .dk kvs
  | .t kvs => .dt kvs
  | .kl kvs => .dk (kvs.map fun p => (p.1, PyData.list p.2.2))
  | .ll xs => .d (.list (xs.map fun p => PyData.list p.2))
section
open Classical
noncomputable def lentG (G H : Hp) (bs : List Addr) : Hp := fun b => if b ∈ bs then H b else G b
noncomputable def backG (G : Hp) (bs : List Addr) : Hp := fun b => if b ∈ bs then none else G b
theorem lentG_in {G H : Hp} {bs : List Addr} {b : Addr} (h : b ∈ bs) : lentG G H bs b = H b := if_pos h
theorem lentG_out {G H : Hp} {bs : List Addr} {b : Addr} (h : b ∉ bs) : lentG G H bs b = G b := if_neg h
theorem backG_in {G : Hp} {bs : List Addr} {b : Addr} (h : b ∈ bs) : backG G bs b = none := if_pos h
theorem backG_out {G : Hp} {bs : List Addr} {b : Addr} (h : b ∉ bs) : backG G bs b = G b := if_neg h
end
mutual
def noList : D → Bool
  | .none => true
  | .bool _ => true
  | .int _ => true
  | .str _ => true
  | .list _ => false
  | .tuple ds => noListA ds
  | .dict _ => false
def noListA : List D → Bool
  | [] => true
  | d :: ds => noList d && noListA ds
end
section
variable {K : PySem.W.Frag} {EX : Ext} {G H G1 H1 : Hp} {σ : L2.St} {ρ : Rh} {bs : List Addr}
mutual
theorem backD (h : ∀ b ∈ bs, ∀ o, G b = some o → ∀ xs, o ≠ .tup xs) : ∀ (d : D) (v : V), noList d = true → Dd K G v d → Dd K (backG G bs) v d
  | .none, _, _, q => by cases q; exact .non
  | .bool b, _, _, q => by cases q; exact .bl b
  | .int i, _, _, q => by cases q; exact .int i
  | .str x, _, _, q => by cases q with | str _ z => exact .str x z
  | .list ds, _, n, q => by simp [noList] at n
  | .tuple ds, _, n, q => by
    cases q with
    | @tup a xs _ hs ha =>
      have nb : a ∉ bs := fun z => h a z _ hs _ rfl
      exact .tup (by rw [backG_out nb]; exact hs) (backDs h ds _ (by simpa [noList] using n) ha)
  | .dict _, _, n, q => by simp [noList] at n
theorem backDs (h : ∀ b ∈ bs, ∀ o, G b = some o → ∀ xs, o ≠ .tup xs) : ∀ (ds : List D) (vs : List V), noListA ds = true → DdAll K G vs ds → DdAll K (backG G bs) vs ds
  | [], _, _, q => by cases q; exact .nil
  | d :: ds, _, n, q => by
    cases q with
    | cons h1 h2 =>
      rw [noListA, Bool.and_eq_true] at n
      exact .cons (backD h d _ n.1 h1) (backDs h ds _ n.2 h2)
end
theorem muNoTup {a : Addr} {m : Mu} (h : MuAt K G H a m) : ∀ b ∈ m.owns a, ∀ o, H b = some o → ∀ xs, o ≠ .tup xs := by
  intro b hb o ho xs e
  subst e
  cases m with
  | l ds =>
    obtain ⟨vs, g, q⟩ := h
    rw [owns_l hb, g] at ho
    cases ho
  | k kvs =>
    obtain ⟨vs, g, q⟩ := h
    rw [owns_k hb, g] at ho
    cases ho
  | t kvs =>
    obtain ⟨vs, g, q⟩ := h
    rw [owns_t hb, g] at ho
    cases ho
  | kl kvs =>
    obtain ⟨g, q, n⟩ := h
    rcases List.mem_cons.mp hb with rfl | hb
    · rw [g] at ho; cases ho
    · obtain ⟨x, hx, rfl⟩ := List.mem_map.mp hb
      obtain ⟨vs, g', _⟩ := q _ (List.mem_map.mpr ⟨x, hx, rfl⟩)
      rw [g'] at ho; cases ho
  | ll xs' =>
    obtain ⟨g, q, n⟩ := h
    rcases List.mem_cons.mp hb with rfl | hb
    · rw [g] at ho; cases ho
    · obtain ⟨x, hx, rfl⟩ := List.mem_map.mp hb
      obtain ⟨vs, g', _⟩ := q _ hx
      rw [g'] at ho; cases ho
theorem lent_same {a : Addr} {m : Mu} (hg : ∀ b ∈ m.owns a, G b = none ∧ ¬ EX b .box) : Same G (lentG G H (m.owns a)) := fun b o e => by
  have nb : b ∉ m.owns a := fun z => by rw [(hg b z).1] at e; cases e
  rw [lentG_out nb]
  exact e
theorem lent_rw {a : Addr} {m : Mu} (hg : ∀ b ∈ m.owns a, G b = none ∧ ¬ EX b .box) (h : MuAt K G H a m) : Rw K EX (lentG G H (m.owns a)) (.ref a) (muW m) := by
  have sm := lent_same (H := H) hg
  have g0 : lentG G H (m.owns a) a = H a := lentG_in List.mem_cons_self
  cases m with
  | l ds =>
    obtain ⟨vs, g, q⟩ := h
    exact Dd.lst (g0.trans g) (dpsMono sm _ _ q)
  | k kvs =>
    obtain ⟨vs, g, q⟩ := h
    exact ⟨a, vs, rfl, g0.trans g, kvMono sm q⟩
  | t kvs =>
    obtain ⟨vs, g, q⟩ := h
    exact ⟨a, vs, rfl, g0.trans g, kvMono sm q⟩
  | kl kvs =>
    obtain ⟨g, q, n⟩ := h
    refine ⟨a, _, rfl, g0.trans g, ?_⟩
    have key : ∀ l : List (Key × (Addr × List D)), (∀ x ∈ l, x ∈ kvs) → KvD K (lentG G H ((Mu.kl kvs).owns a)) (l.map fun p => (p.1, V.ref p.2.1)) (l.map fun p => (p.1, PyData.list p.2.2)) := by
      intro l
      induction l with
      | nil => intro _; exact .nil
      | cons x l ih =>
        intro hx
        refine .cons ⟨rfl, ?_⟩ (ih fun y hy => hx y (List.mem_cons_of_mem _ hy))
        have hx0 := hx x List.mem_cons_self
        obtain ⟨vs, g', dd⟩ := q _ (List.mem_map.mpr ⟨x, hx0, rfl⟩)
        exact Dd.lst ((lentG_in (List.mem_cons_of_mem _ (List.mem_map.mpr ⟨x, hx0, rfl⟩))).trans g') (dpsMono sm _ _ dd)
    exact key kvs fun _ h => h
  | ll xs =>
    obtain ⟨g, q, n⟩ := h
    refine Dd.lst (g0.trans g) ?_
    have key : ∀ l : List (Addr × List D), (∀ x ∈ l, x ∈ xs) → DdAll K (lentG G H ((Mu.ll xs).owns a)) (l.map fun p => V.ref p.1) (l.map fun p => PyData.list p.2) := by
      intro l
      induction l with
      | nil => intro _; exact .nil
      | cons x l ih =>
        intro hx
        refine .cons ?_ (ih fun y hy => hx y (List.mem_cons_of_mem _ hy))
        have hx0 := hx x List.mem_cons_self
        obtain ⟨vs, g', dd⟩ := q _ hx0
        exact Dd.lst ((lentG_in (List.mem_cons_of_mem _ (List.mem_map.mpr ⟨x, hx0, rfl⟩))).trans g') (dpsMono sm _ _ dd)
    exact key xs fun _ h => h
theorem Rel.lend (R : Rel K EX G H σ ρ) {i : Nat} {m : Mu} {a : Addr} (e : ρ[i]? = some (.mu m)) (es : σ[i]? = some (some (.ref a))) (hg : ∀ b ∈ m.owns a, G b = none ∧ ¬ EX b .box) (h : MuAt K G H a m) :
    Rel K EX (lentG G H (m.owns a)) H σ (ρ.set i (.sh (muW m))) := by
  have sm := lent_same (H := H) hg
  have hil : i < ρ.length := (List.getElem?_eq_some_iff.mp e).1
  refine ⟨⟨fun b o q => ?_, R.bx, R.sc, fun b hb => ?_⟩, fun j s q => ?_, fun j k m1 m2 a1 a2 b q1 q2 q3 q4 b1 b2 => ?_, by rw [List.length_set, R.len]⟩
  · by_cases hb : b ∈ m.owns a
    · rw [lentG_in hb] at q; exact q
    · rw [lentG_out hb] at q; exact R.sub b o q
  · have nb : b ∉ m.owns a := fun z => (hg b z).2 hb
    rw [lentG_out nb]
    exact R.ex b hb
  · by_cases hj : j = i
    · subst hj
      rw [List.getElem?_set_self hil] at q
      cases q
      rw [es]
      exact slSh (lent_rw hg h)
    · rw [List.getElem?_set_ne (Ne.symm hj)] at q
      have S0 := R.sl j s q
      refine ⟨fun w z => ?_, fun m' z => ?_⟩
      · obtain ⟨v, y1, y2⟩ := S0.sh w z
        exact ⟨v, y1, rwMono sm (fun _ _ h => h) y2⟩
      · obtain ⟨a', y1, y2, y4⟩ := S0.mu m' z
        subst z
        refine ⟨a', y1, fun b hb => ⟨?_, (y2 b hb).2⟩, muMono sm (fun _ _ => rfl) y4⟩
        have nb : b ∉ m.owns a := fun z => hj (R.df j i m' m a' a b q e y1 es hb z)
        rw [lentG_out nb]
        exact (y2 b hb).1
  · have ne : ∀ {j : Nat} {m : Mu}, (ρ.set i (.sh (muW m)))[j]? = some (.mu m1) → True := fun _ => trivial
    have nj : j ≠ i := fun z => by
      subst z
      rw [List.getElem?_set_self hil] at q1
      cases q1
    have nk : k ≠ i := fun z => by
      subst z
      rw [List.getElem?_set_self hil] at q2
      cases q2
    rw [List.getElem?_set_ne (Ne.symm nj)] at q1
    rw [List.getElem?_set_ne (Ne.symm nk)] at q2
    exact R.df j k m1 m2 a1 a2 b q1 q2 q3 q4 b1 b2
/-- given back -/
theorem Step.back {a : Addr} {m : Mu} (S : Step EX (lentG G H (m.owns a)) H G1 H1) (hg : ∀ b ∈ m.owns a, G b = none ∧ ¬ EX b .box) : Step EX G H (backG G1 (m.owns a)) H1 where
  st := S.st
  bx := S.bx
  gg := fun b o e => by
    have nb : b ∉ m.owns a := fun z => by rw [(hg b z).1] at e; cases e
    rw [backG_out nb]
    exact S.gg b o (by rw [lentG_out nb]; exact e)
  sub := fun b o e => by
    by_cases hb : b ∈ m.owns a
    · rw [backG_in hb] at e; cases e
    · rw [backG_out hb] at e; exact S.sub b o e
  gn := fun b o e => by
    by_cases hb : b ∈ m.owns a
    · rw [backG_in hb] at e; cases e
    · rw [backG_out hb] at e
      rcases S.gn b o e with z | z
      · rw [lentG_out hb] at z; exact .inl z
      · exact .inr z
  ex := fun b hb => by
    by_cases z : b ∈ m.owns a
    · exact backG_in z
    · rw [backG_out z]; exact S.ex b hb
theorem lent_noTup {a : Addr} {m : Mu} (S : Step EX (lentG G H (m.owns a)) H G1 H1) (h : MuAt K G H a m) : ∀ b ∈ m.owns a, ∀ o, G1 b = some o → ∀ xs, o ≠ .tup xs := fun b hb o ho xs e => by
  obtain ⟨u, hu, _⟩ := muThere h b hb
  have := S.gg b u (by rw [lentG_in hb]; exact hu)
  rw [ho] at this
  cases this
  exact muNoTup h b hb _ hu xs e
def wLend (i : Nat) (w : WE) : WE := fun ρ Φ => match ρ[i]? with
  | some (.mu m) => w (ρ.set i (.sh (muW m))) fun r => match r with
    | .d x => noList x = true ∧ Φ (.d x)
    | .rp x => Φ (.rp x)
    | _ => False
  | some (.sh _) => w ρ Φ
  | _ => False
def wLendT (i : Nat) (w : WT) : WT := fun ρ Φ => match ρ[i]? with
  | some (.mu m) => w (ρ.set i (.sh (muW m))) Φ
  | some (.sh _) => w ρ Φ
  | _ => False
def wLendL (i : Nat) (w : WD) : WD := fun ρ Φ => match ρ[i]? with
  | some (.mu m) => w (ρ.set i (.sh (muW m))) fun ds => noListA ds = true ∧ Φ ds
  | some (.sh _) => w ρ Φ
  | _ => False
theorem so_lend {t : TE} {w : WE} (i : Nat) (h : SoE K t w) : SoE K t (wLend i w) := fun EX G H σ ρ Φ R f Q q => by
  unfold wLend at f
  split at f
  · rename_i m e
    obtain ⟨a, es, hg, hm⟩ := R.own e
    refine h EX _ H σ _ _ (R.lend e es hg hm) f Q fun v G1 H1 r S rv f1 => ?_
    split at f1
    · rename_i x
      exact q v _ H1 (.d x) (S.back hg) (backD (lent_noTup S hm) _ _ f1.1 rv) f1.2
    · rename_i x
      exact q v _ H1 (.rp x) (S.back hg) rv f1
    · exact f1.elim
  · exact h EX G H σ ρ Φ R f Q q
  · exact f.elim
theorem so_lendT {t : TT} {w : WT} (i : Nat) (h : SoT K t w) : SoT K t (wLendT i w) := fun EX G H σ ρ Φ R f Q q => by
  unfold wLendT at f
  split at f
  · rename_i m e
    obtain ⟨a, es, hg, hm⟩ := R.own e
    exact h EX _ H σ _ _ (R.lend e es hg hm) f Q fun b G1 H1 S f1 => q b _ H1 (S.back hg) f1
  · exact h EX G H σ ρ Φ R f Q q
  · exact f.elim
theorem so_lendL {t : TE} {w : WD} (i : Nat) (h : SoL K t w) : SoL K t (wLendL i w) := fun EX G H σ ρ Φ R f Q q => by
  unfold wLendL at f
  split at f
  · rename_i m e
    obtain ⟨a, es, hg, hm⟩ := R.own e
    refine h EX _ H σ _ _ (R.lend e es hg hm) f Q fun p vs G1 H1 ds S hp gp bp h1 dd f1 => ?_
    refine q p vs _ H1 ds (S.back hg) hp ?_ bp h1 (backDs (lent_noTup S hm) _ _ f1.1 dd) f1.2
    by_cases z : p ∈ m.owns a
    · exact backG_in z
    · rw [backG_out z]; exact gp
  · exact h EX G H σ ρ Φ R f Q q
  · exact f.elim
/-! ### frozen -/
def wFrz (i : Nat) (w : WS) : WS := fun ρ P => match ρ[i]? with
  | some (.mu m) => w (ρ.set i (.sh (muW m))) P
  | some (.sh _) => w ρ P
  | _ => False
theorem so_frz {t : TS} {w : WS} (i : Nat) (h : SoS K ξ t w) : SoS K ξ t (wFrz i w) := fun EX G H σ ρ P R f D E => by
  unfold wFrz at f
  split at f
  · rename_i m e
    obtain ⟨a, es, hg, hm⟩ := R.own e
    have R1 := R.lend e es hg hm
    refine h EX _ H σ _ P R1 f D (E.from ⟨fun _ _ h => .inr (.inr h), fun _ _ h => h, fun _ h => .inl h, lent_same hg, fun b o q => ?_⟩ R1.toGd fun b q => ?_)
    · by_cases hb : b ∈ m.owns a
      · exact .inr (.inr ⟨i, m, a, e, es, hb⟩)
      · rw [lentG_out hb] at q; exact .inl q
    · obtain ⟨j, m', a', q1, q2, q3⟩ := q
      have nj : j ≠ i := fun z => by
        subst z
        rw [List.getElem?_set_self (List.getElem?_eq_some_iff.mp e).1] at q1
        cases q1
      rw [List.getElem?_set_ne (Ne.symm nj)] at q1
      exact .inl ⟨j, m', a', q1, q2, q3⟩
  · exact h EX G H σ ρ P R f D E
  · exact f.elim
end
section
variable {X : Cx} {e : Expr} {t : TE} {tt : TT} {w : WE} {wt : WT} {wd : WD} {ts : TS} {ws : WS} {st : Stmt} {sts : List Stmt}
theorem me_lend (i : Nat) (h : ME X e t w) : ME X e t (wLend i w) := ⟨h.pe, so_lend i h.so⟩
theorem mt_lend (i : Nat) (h : MT X e tt wt) : MT X e tt (wLendT i wt) := ⟨h.pt, so_lendT i h.so⟩
theorem ml_lend (i : Nat) (h : ML X e t wd) : ML X e t (wLendL i wd) := ⟨h.pe, so_lendL i h.so⟩
theorem ms_frz (i : Nat) (h : MS X ξ st ts ws) : MS X ξ st ts (wFrz i ws) := ⟨h.ps, so_frz i h.so⟩
theorem mss_frz (i : Nat) (h : MSs X ξ sts ts ws) : MSs X ξ sts ts (wFrz i ws) := ⟨h.ps, so_frz i h.so⟩
end

/-! ### changed -/
section
variable {K : PySem.W.Frag} {EX : Ext} {G H H' : Hp} {σ : L2.St} {ρ : Rh}
theorem Rel.mut (R : Rel K EX G H σ ρ) {i : Nat} {m m' : Mu} {a : Addr} (e : ρ[i]? = some (.mu m)) (es : σ[i]? = some (some (.ref a))) (hH : ∀ b o, b ∉ m.owns a → H b = some o → H' b = some o)
    (hn : ∀ b ∈ m'.owns a, b ∈ m.owns a ∨ H b = none) (h : MuAt K G H' a m') : Rel K EX G H' σ (ρ.set i (.mu m')) ∧ SStep EX (Own σ ρ) G H EX G H' ∧ ∀ b, Own σ (ρ.set i (.mu m')) b → Own σ ρ b ∨ H b = none := by
  obtain ⟨a0, es0, hg, hm⟩ := R.own e
  rw [es] at es0
  cases es0
  have hil : i < ρ.length := (List.getElem?_eq_some_iff.mp e).1
  have nbox : ∀ b, EX b .box → b ∉ m.owns a := fun b hb z => (hg b z).2 hb
  have nG : ∀ b o, G b = some o → b ∉ m.owns a := fun b o hb z => by rw [(hg b z).1] at hb; cases hb
  refine ⟨⟨⟨fun b o q => hH b o (nG b o q) (R.sub b o q), fun b hb => ?_, fun b ns hb => ?_, R.ex⟩, fun j s q => ?_, fun j k m1 m2 a1 a2 b q1 q2 q3 q4 b1 b2 => ?_, by rw [List.length_set, R.len]⟩, ⟨fun b o q => ?_, fun _ _ h => h, fun _ h => .inl h, Same.refl G, fun _ _ h => .inl h⟩, fun b q => ?_⟩
  · obtain ⟨x, y, z, q⟩ := R.bx b hb
    exact ⟨x, y, z, hH b _ (nbox b hb) q⟩
  · rcases R.sc b ns hb with ⟨o, q⟩ | q
    · refine .inl ⟨o, hH b _ (fun z => ?_) q⟩
      obtain ⟨u, hu, hf⟩ := muThere hm b z
      rw [q] at hu
      cases hu
      exact hf _ _ rfl
    · exact .inr q
  · by_cases hj : j = i
    · subst hj
      rw [List.getElem?_set_self hil] at q
      cases q
      rw [es]
      refine slMu (fun b hb => ?_) h
      rcases hn b hb with z | z
      · exact hg b z
      · exact ⟨R.toGd.free z, R.toGd.notBox z⟩
    · rw [List.getElem?_set_ne (Ne.symm hj)] at q
      have S0 := R.sl j s q
      refine ⟨S0.sh, fun m2 z => ?_⟩
      obtain ⟨a', y1, y2, y4⟩ := S0.mu m2 z
      subst z
      refine ⟨a', y1, y2, muMono (Same.refl G) (fun b hb => ?_) y4⟩
      have nb : b ∉ m.owns a := fun z => hj (R.df j i m2 m a' a b q e y1 es hb z)
      obtain ⟨u, hu, _⟩ := muThere y4 b hb
      rw [hu]
      exact hH b u nb hu
  · have other : ∀ {j : Nat} {m1 : Mu} {a1 b : Addr}, j ≠ i → ρ[j]? = some (.mu m1) → σ[j]? = some (some (.ref a1)) → b ∈ m1.owns a1 → b ∈ m'.owns a → False := fun {j m1 a1 b} hj q1 q3 b1 b2 => by
      rcases hn b b2 with z | z
      · exact hj (R.df j i m1 m a1 a b q1 e q3 es b1 z)
      · obtain ⟨_, _, u, hu, _⟩ := R.ownAt (b := b) ⟨j, m1, a1, q1, q3, b1⟩
        rw [z] at hu; cases hu
    by_cases hj : j = i
    · by_cases hk : k = i
      · rw [hj, hk]
      · subst hj
        rw [List.getElem?_set_self hil] at q1
        cases q1
        rw [es] at q3
        cases q3
        rw [List.getElem?_set_ne (Ne.symm hk)] at q2
        exact (other hk q2 q4 b2 b1).elim
    · by_cases hk : k = i
      · subst hk
        rw [List.getElem?_set_self hil] at q2
        cases q2
        rw [es] at q4
        cases q4
        rw [List.getElem?_set_ne (Ne.symm hj)] at q1
        exact (other hj q1 q3 b1 b2).elim
      · rw [List.getElem?_set_ne (Ne.symm hj)] at q1
        rw [List.getElem?_set_ne (Ne.symm hk)] at q2
        exact R.df j k m1 m2 a1 a2 b q1 q2 q3 q4 b1 b2
  · by_cases z : b ∈ m.owns a
    · exact .inr (.inl ⟨i, m, a, e, es, z⟩)
    · exact .inr (.inr (hH b o z q))
  · obtain ⟨j, m1, a1, q1, q2, q3⟩ := q
    by_cases hj : j = i
    · subst hj
      rw [List.getElem?_set_self hil] at q1
      cases q1
      rw [es] at q2
      cases q2
      rcases hn b q3 with z | z
      · exact .inl ⟨j, m, a, e, es, z⟩
      · exact .inr z
    · rw [List.getElem?_set_ne (Ne.symm hj)] at q1
      exact .inl ⟨j, m1, a1, q1, q2, q3⟩
/-- a box changes -/
theorem Rel.box (R : Rel K EX G H σ ρ) {a : Addr} {o : HO} (hb : EX a .box) (h : BoxAt (upd H a o) a) : Rel K EX G (upd H a o) σ ρ ∧ Step EX G H G (upd H a o) := by
  have S : Step EX G H G (upd H a o) := ⟨fun b u q => by
      by_cases z : b = a
      · exact .inl (z ▸ hb)
      · exact .inr (by rw [upd_ne z]; exact q), fun b q => by
      by_cases z : b = a
      · exact z ▸ h
      · obtain ⟨x, y, w, e⟩ := R.bx b q
        exact ⟨x, y, w, by rw [upd_ne z]; exact e⟩, Same.refl G, fun b u q => by
      have z : b ≠ a := fun z => by
        rw [z, R.ex a hb] at q
        cases q
      rw [upd_ne z]
      exact R.sub b u q, fun _ _ h => .inl h, R.ex⟩
  exact ⟨R.step S, S⟩
end
end Pd
end

section
set_option Elab.async false
set_option linter.all false
set_option maxRecDepth 100000
set_option autoImplicit false
set_option maxHeartbeats 1000000
/-! Pd, statements on own lists and dicts, boxes; loops; several names at once -/
namespace Pd
open PySem PySem.Spec PyProof.Rows L2
variable {ξ : XI}
theorem mil_lt {n : Nat} (h : n ≤ 1000000) : n < sizeLine := Nat.lt_of_le_of_lt h (by rw [sizeLine_eq]; decide)
section
variable {K : PySem.W.Frag} {EX : Ext} {G H : Hp} {σ : L2.St} {ρ : Rh}
/-- one list changes -/
theorem Rel.mut1 (R : Rel K EX G H σ ρ) {i : Nat} {m m' : Mu} {a : Addr} {o : HO} (e : ρ[i]? = some (.mu m)) (es : σ[i]? = some (some (.ref a))) (hn : ∀ b ∈ m'.owns a, b ∈ m.owns a ∨ H b = none) (h : MuAt K G (upd H a o) a m') :
    Rel K EX G (upd H a o) σ (ρ.set i (.mu m')) ∧ SStep EX (Own σ ρ) G H EX G (upd H a o) ∧ ∀ b, Own σ (ρ.set i (.mu m')) b → Own σ ρ b ∨ H b = none :=
  R.mut e es (fun b u nb q => by
    have : b ≠ a := fun z => nb (by rw [z]; exact List.mem_cons_self)
    rw [upd_ne this]; exact q) hn h
theorem ownsl_in {a b : Addr} {ds ds' : List D} (hb : b ∈ (Mu.l ds').owns a) : b ∈ (Mu.l ds).owns a := by
  rw [owns_l hb]
  exact List.mem_cons_self
theorem ownsk_in {a b : Addr} {ds ds' : List (Key × D)} (hb : b ∈ (Mu.k ds').owns a) : b ∈ (Mu.k ds).owns a := by
  rw [owns_k hb]
  exact List.mem_cons_self
theorem ownst_in {a b : Addr} {ds ds' : List (List Key × D)} (hb : b ∈ (Mu.t ds').owns a) : b ∈ (Mu.t ds).owns a := by
  rw [owns_t hb]
  exact List.mem_cons_self
end
section
variable {X : Cx} {e k tg iter c : Expr} {te tk : TE} {we wk : WE} {pos apos cpos tpos np : Pos} {x : Str} {body : List Stmt}
/-- x.append(e) -/
def wApp (i : Nat) (we : WE) : WS := fun ρ P => match ρ[i]? with
  | some (.mu (.l ds)) => ds.length ≤ 1000000 ∧ we ρ fun r => (match r with
    | .d v => P.nx (ρ.set i (.mu (.l (ds ++ [v]))))
    | _ => False)
  | _ => False
theorem so_app {K : PySem.W.Frag} {i : Nat} (h : SoE K te we) : SoS K ξ (tDrop (tBM K "list" rAppend (tVar i) (tCons te tNil))) (wApp i we) := fun EX G H σ ρ P R f D E => by
  unfold wApp at f
  split at f
  · rename_i ds e
    obtain ⟨a, es, hg, vs, hH, dd⟩ := R.own e
    refine ⟨.ref a, es, .inl ⟨rfl, vs, .inl (.inl hH)⟩, h EX G H σ ρ _ R f.2 _ fun v G1 H1 r S rv f1 => ?_⟩
    have R1 := R.step S
    split at f1
    · rename_i x
      obtain ⟨a', es', hg', vs', hH', dd'⟩ := R1.own e
      rw [es] at es'
      cases es'
      refine ⟨a, vs', v, rfl, rfl, hH', by rw [dpLen dd']; exact mil_lt f.1, ?_⟩
      obtain ⟨R2, S2, o2⟩ := R1.mut1 (m' := .l (ds ++ [x])) (o := .lst (vs' ++ [v])) e es (fun b hb => .inl (ownsl_in hb)) ⟨_, upd_same, dpApp dd' (dpOne rv)⟩
      exact (E.step R.toGd S).nx EX G1 _ σ _ S2 R2 o2 f1
    · exact f1.elim
  · exact f.elim
theorem ms_app (i : Nat) (he : ME X e te we) (hN : X.N[i]? = some x := by rfl) (hv : Vis X.env.scope x := by first | exact Or.inl rfl | exact Or.inr (Or.inl rfl) | exact Or.inr (Or.inr rfl)) (hd : (x == ("__debug__" : Str)) = false := by decide)
    (hcd : (x == ("__classdict__" : Str)) = false := by decide) (hs : swapsWith (.Call (.Attribute (.Name x np) "append" apos) [e] [] cpos) none pos.line X.env = pure false := by rfl)
    (hbase : attributeBase (.Name x np) "append" X.env (eval (.Name x np) X.env) = eval (.Name x np) X.env := by rfl)
    (hfew : ((backTo cpos (starEach [e] X.env)).all (fun x => !x.1) && (backToKw cpos (keywordEach [] X.env)).all (fun x => x.1.isSome) && decide (([e] : List Expr).length + ([] : List Keyword).length + (if ([] : List Keyword).isEmpty then 0 else 1) < 30)) = true := by rfl)
    (hline : (apos.endLine == cpos.line) = true := by rfl) (hst : starEach [e] X.env = (false, eval e X.env) :: starEach [] X.env := by rfl) (hplain : (backTo cpos (starEach [] X.env)).any (·.1) = false := by rfl) :
    MS X ξ (.Expr (.Call (.Attribute (.Name x np) "append" apos) [e] [] cpos) pos) (tDrop (tBM X.K "list" rAppend (tVar i) (tCons te tNil))) (wApp i we) :=
  ⟨ps_expr (pe_bm PySem.F.plainAttrs_list PySem.F.slot_list_append PySem.F.type_list_append mt_append (pv i hN hv hd hcd) (pa_cons he.pe pa_nil hst) hbase hfew hline hst hplain) hs, so_app he.so⟩
/-- x[k] = e, an own list -/
def wSetI (i : Nat) (we wk : WE) : WS := fun ρ P => we ρ fun r => wk ρ fun q => match r, q with
  | .d v, .d (.int z) => (match ρ[i]? with
    | some (.mu (.l ds)) => (match ixN ds.length z with
      | some j => P.nx (ρ.set i (.mu (.l (ds.set j v))))
      | none => False)
    | _ => False)
  | _, _ => False
theorem so_setI {K : PySem.W.Frag} {i : Nat} (h : SoE K te we) (hk : SoE K tk wk) (hv : ∀ ρ Φ, wSetI i we wk ρ Φ → True) : SoS K ξ (tAsg te (gSub (tVar i) tk rSetL)) (fun ρ P => (∃ ds, ρ[i]? = some (.mu (.l ds))) ∧ wSetI i we wk ρ P) := fun EX G H σ ρ P R f D E => by
  obtain ⟨⟨ds, e⟩, f⟩ := f
  obtain ⟨a, es, hg, vs, hH, dd⟩ := R.own e
  refine h EX G H σ ρ _ R f _ fun v G1 H1 r S rv f1 => ⟨.ref a, es, ?_⟩
  have R1 := R.step S
  refine hk EX G1 H1 σ ρ _ R1 f1 _ fun u G2 H2 q S2 ru f2 => ?_
  have R2 := R1.step S2
  split at f2
  · rename_i x z
    rw [e] at f2
    simp only at f2
    split at f2
    · rename_i j hj
      obtain ⟨a', es', hg', vs', hH', dd'⟩ := R2.own e
      rw [es] at es'
      cases es'
      refine ⟨a, vs', z, j, rfl, rwInt ru, hH', by rw [dpLen dd']; exact hj, ?_⟩
      obtain ⟨R3, S3, o3⟩ := R2.mut1 (m' := .l (ds.set j x)) (o := .lst (vs'.set j v)) e es (fun b hb => .inl (ownsl_in hb)) ⟨_, upd_same, dpSet (dpMono S2.gg _ _ rv) j dd'⟩
      exact (E.step R.toGd (S.trans S2)).nx EX G2 _ σ _ S3 R3 o3 f2
    · exact f2.elim
  · exact f2.elim
def wSetIx (i : Nat) (we wk : WE) : WS := fun ρ P => (∃ ds, ρ[i]? = some (.mu (.l ds))) ∧ wSetI i we wk ρ P
theorem ms_setI (i : Nat) (he : ME X e te we) (hk : ME X k tk wk) (hN : X.N[i]? = some x := by rfl) (hv : Vis X.env.scope x := by first | exact Or.inl rfl | exact Or.inr (Or.inl rfl) | exact Or.inr (Or.inr rfl)) (hd : (x == ("__debug__" : Str)) = false := by decide)
    (hcd : (x == ("__classdict__" : Str)) = false := by decide) (hs : swapsWithSole [.Subscript (.Name x np) k tpos] e pos.line X.env = pure false := by rfl) (hw : swappedStores [.Subscript (.Name x np) k tpos] e X.env = pure none := by rfl)
    (h1 : (assignEach [.Subscript (.Name x np) k tpos] X.env).map (·.2) = [assign (.Subscript (.Name x np) k tpos) X.env] := by rfl)
    (ha : ∀ v, assign (.Subscript (.Name x np) k tpos) X.env v = (do
      let ov ← holding [v] (eval (.Name x np) X.env)
      let iv ← holding [v, ov] (eval k X.env)
      standAt tpos
      holding [v, ov, iv] (setItem ov iv v)
      release [v, ov, iv] []) := by intro _; rfl) :
    MS X ξ (.Assign [.Subscript (.Name x np) k tpos] e pos) (tAsg te (gSub (tVar i) tk rSetL)) (wSetIx i we wk) :=
  ⟨ps_asg he.pe (pg_sub (pv i hN hv hd hcd) hk.pe set_list ha) hs hw h1, so_setI he.so hk.so fun _ _ _ => trivial⟩
/-- box[k] = e -/
def wSetB (i : Nat) (we wk : WE) : WS := fun ρ P => we ρ fun r => wk ρ fun q => match r, q with
  | .d (.int _), .d (.int z) => (z = 0 ∨ z = 1 ∨ z = 2) ∧ (match ρ[i]? with
    | some (.sh (.p _)) => P.nx ρ
    | _ => False)
  | _, _ => False
def wSetBx (i : Nat) (we wk : WE) : WS := fun ρ P => (∃ a, ρ[i]? = some (.sh (.p a))) ∧ wSetB i we wk ρ P
theorem so_setB {K : PySem.W.Frag} {i : Nat} (h : SoE K te we) (hk : SoE K tk wk) : SoS K ξ (tAsg te (gSub (tVar i) tk rSetL)) (wSetBx i we wk) := fun EX G H σ ρ P R f D E => by
  obtain ⟨⟨a, e⟩, f⟩ := f
  obtain ⟨va, es, ea, hbx⟩ := R.var e
  subst ea
  refine h EX G H σ ρ _ R f _ fun v G1 H1 r S rv f1 => ⟨.ref a, es, ?_⟩
  have R1 := R.step S
  refine hk EX G1 H1 σ ρ _ R1 f1 _ fun u G2 H2 q S2 ru f2 => ?_
  have R2 := R1.step S2
  split at f2
  · rename_i n z
    obtain ⟨hz, f2⟩ := f2
    rw [e] at f2
    simp only at f2
    obtain ⟨n0, n1, n2, hb⟩ := R2.bx _ hbx
    have ev := rwInt rv
    subst ev
    have fin : ∀ j : Nat, j < 3 → ixN 3 z = some j → rSetL (.ref a) u (.int n) H2 fun H3 => D.nx σ H3 := fun j hj3 hj => by
      refine ⟨a, _, z, j, rfl, rwInt ru, hb, hj, ?_⟩
      obtain ⟨R3, S3⟩ := R2.box (o := .lst (([.int n0, .int n1, .int n2] : List V).set j (.int n))) hbx (by
        rcases j with _ | _ | _ | j
        · exact ⟨n, n1, n2, upd_same⟩
        · exact ⟨n0, n, n2, upd_same⟩
        · exact ⟨n0, n1, n, upd_same⟩
        · omega)
      exact (E.step R.toGd (S.trans S2)).nx EX G2 _ σ _ S3.s R3 (fun b z => .inl z) f2
    rcases hz with rfl | rfl | rfl
    · exact fin 0 (by omega) rfl
    · exact fin 1 (by omega) rfl
    · exact fin 2 (by omega) rfl
  · exact f2.elim
theorem ms_setB (i : Nat) (he : ME X e te we) (hk : ME X k tk wk) (hN : X.N[i]? = some x := by rfl) (hv : Vis X.env.scope x := by first | exact Or.inl rfl | exact Or.inr (Or.inl rfl) | exact Or.inr (Or.inr rfl)) (hd : (x == ("__debug__" : Str)) = false := by decide)
    (hcd : (x == ("__classdict__" : Str)) = false := by decide) (hs : swapsWithSole [.Subscript (.Name x np) k tpos] e pos.line X.env = pure false := by rfl) (hw : swappedStores [.Subscript (.Name x np) k tpos] e X.env = pure none := by rfl)
    (h1 : (assignEach [.Subscript (.Name x np) k tpos] X.env).map (·.2) = [assign (.Subscript (.Name x np) k tpos) X.env] := by rfl)
    (ha : ∀ v, assign (.Subscript (.Name x np) k tpos) X.env v = (do
      let ov ← holding [v] (eval (.Name x np) X.env)
      let iv ← holding [v, ov] (eval k X.env)
      standAt tpos
      holding [v, ov, iv] (setItem ov iv v)
      release [v, ov, iv] []) := by intro _; rfl) :
    MS X ξ (.Assign [.Subscript (.Name x np) k tpos] e pos) (tAsg te (gSub (tVar i) tk rSetL)) (wSetBx i we wk) :=
  ⟨ps_asg he.pe (pg_sub (pv i hN hv hd hcd) hk.pe set_list ha) hs hw h1, so_setB he.so hk.so⟩
/-! ### for, while -/
theorem ms_for {wi : TI} {g : TG} {tb : TS} {ui : WD} {ug : WG} {ub : WS} {sl : List Nat} (hi : MI X tg iter wi ui) (hg : MG X tg g ug sl) (hb : MSs X ξ body tb ub) (hp : PassesOwn (model X.prog X.w) X.A X.env X.xe := by exact PassesOwn.never) (hc : X.calm = true := by rfl)
    (hs : ∀ x, foldedSetIterable iter X.env x = pure x := by intro _; rfl) : MS X ξ (.For tg iter body [] pos) (tFor wi g tb) (wFor ui ug ub) := ⟨ps_for hp hc hi.pi hg.pg hb.ps hs, so_for hi.so hg.so hb.so⟩
def wWhile (wc : WT) (wb : WS) : WS := fun ρ P => ∃ I : Nat → Rh → Prop, (∃ n, I n ρ) ∧ ∀ n ρ', I n ρ' → wc ρ' fun k => if k = true then wb ρ' ⟨fun r => ∃ m, m < n ∧ I m r, P.rt, P.nx, fun r => ∃ m, m < n ∧ I m r, P.ex⟩ else P.nx ρ'
theorem so_while {K : PySem.W.Frag} {tc : TT} {tb : TS} {uc : WT} {ub : WS} (hc : SoT K tc uc) (hb : SoS K ξ tb ub) : SoS K ξ (tWhile tc tb) (wWhile uc ub) := fun EX G H σ ρ P R f D E => by
  obtain ⟨I, ⟨n, h0⟩, step⟩ := f
  refine ⟨fun m σ' H' => ∃ EX' G' ρ', SStep EX (Own σ ρ) G H EX' G' H' ∧ Rel K EX' G' H' σ' ρ' ∧ (∀ b, Own σ' ρ' b → Own σ ρ b ∨ H b = none) ∧ I m ρ', ⟨n, EX, G, ρ, .refl, R, fun _ h => .inl h, h0⟩, ?_⟩
  rintro m σ' H' ⟨EX', G', ρ', S, R', o', im⟩
  refine hc EX' G' H' σ' ρ' _ R' (step m ρ' im) _ fun b G1 H1 S1 f1 => ?_
  have R1 := R'.step S1
  have SS : SStep EX (Own σ ρ) G H EX' G1 H1 := S.trans R'.toGd o' (S1.s (O := Own σ' ρ'))
  cases b with
  | true =>
    simp only [if_true] at f1 ⊢
    refine ⟨fun σ2 H2 => ∃ m', m' < m ∧ ∃ EX' G' ρ', SStep EX (Own σ ρ) G H EX' G' H2 ∧ Rel K EX' G' H2 σ2 ρ' ∧ (∀ b, Own σ2 ρ' b → Own σ ρ b ∨ H b = none) ∧ I m' ρ', fun σ2 H2 q => q, ?_⟩
    have E1 : EndsOk K ξ EX' (Own σ' ρ') G1 H1 P D := E.from SS R1.toGd o'
    refine hb EX' G1 H1 σ' ρ' _ R1 f1 _ ⟨fun EX5 G5 H5 σ5 ρ5 S5 R5 o5 f5 => ?_, fun EX5 G5 H5 σ5 ρ5 S5 R5 o5 f5 => E1.nx EX5 G5 H5 σ5 ρ5 S5 R5 o5 f5, fun EX5 G5 H5 σ5 ρ5 S5 R5 o5 f5 => ?_, E1.rt, E1.ex⟩
    · obtain ⟨m', hm, hi⟩ := f5
      exact ⟨m', hm, EX5, G5, ρ5, SS.trans R1.toGd o' S5, R5, own_trans SS R1.toGd o' o5, hi⟩
    · obtain ⟨m', hm, hi⟩ := f5
      exact ⟨m', hm, EX5, G5, ρ5, SS.trans R1.toGd o' S5, R5, own_trans SS R1.toGd o' o5, hi⟩
  | false =>
    simp only [Bool.false_eq_true, if_false] at f1 ⊢
    exact E.nx EX' G1 H1 σ' ρ' SS R1 o' f1
theorem ms_while {tc : TT} {tb : TS} {uc : WT} {ub : WS} (hc : MT X c tc uc) (hb : MSs X ξ body tb ub) (hp : PassesOwn (model X.prog X.w) X.A X.env X.xe := by exact PassesOwn.never) : MS X ξ (.While c body [] pos) (tWhile tc tb) (wWhile uc ub) := ⟨ps_while hp hc.pt hb.ps, so_while hc.so hb.so⟩
end

/-! ### several names at once -/
abbrev WAo := Rh → (List Sl → Prop) → Prop
structure SlsAt (K : PySem.W.Frag) (EX : Ext) (G' H H' : Hp) (vs : List V) (ss : List Sl) : Prop where
  len : vs.length = ss.length
  at_ : ∀ (i : Nat) (s : Sl), ss[i]? = some s → SlAt K EX G' H' (vs[i]?.map some) s
  fr : ∀ (i : Nat) (m : Mu) (a b : Addr), ss[i]? = some (.mu m) → vs[i]? = some (.ref a) → b ∈ m.owns a → H b = none
  df : ∀ (i j : Nat) (m m' : Mu) (a a' b : Addr), ss[i]? = some (.mu m) → ss[j]? = some (.mu m') → vs[i]? = some (.ref a) → vs[j]? = some (.ref a') → b ∈ m.owns a → b ∈ m'.owns a' → i = j
def SoAo (K : PySem.W.Frag) (t : TA) (w : WAo) : Prop := ∀ (EX : Ext) (G H : Hp) (σ : L2.St) (ρ : Rh) (Φ : List Sl → Prop), Rel K EX G H σ ρ → w ρ Φ →
  ∀ Q : List V → Hp → Prop, (∀ vs G' H' ss, Step EX G H G' H' → SlsAt K EX G' H H' vs ss → Φ ss → Q vs H') → t σ H Q
structure MAo (X : Cx) (es : List Expr) (t : TA) (w : WAo) : Prop where
  pa : PA X es t
  so : SoAo X.K t w
/-- a value that only a slot will have -/
def SoN (K : PySem.W.Frag) (t : TE) (w : Rh → (Mu → Prop) → Prop) : Prop := ∀ (EX : Ext) (G H : Hp) (σ : L2.St) (ρ : Rh) (Φ : Mu → Prop), Rel K EX G H σ ρ → w ρ Φ →
  ∀ Q : VK, (∀ a G' H' m, Step EX G H G' H' → (∀ b ∈ m.owns a, H b = none ∧ G' b = none ∧ ¬ EX b .box) → MuAt K G' H' a m → Φ m → Q (.ref a) H') → t σ H Q
abbrev WN := Rh → (Mu → Prop) → Prop
structure MN (X : Cx) (e : Expr) (t : TE) (w : WN) : Prop where
  pe : PE X e t
  so : SoN X.K t w
section
variable {K : PySem.W.Frag} {EX : Ext} {G H G1 H1 G2 H2 : Hp} {σ : L2.St} {ρ : Rh}
theorem slsNil : SlsAt K EX G H H1 [] [] := ⟨rfl, fun _ _ e => by simp at e, fun _ _ _ _ e => by simp at e, fun _ _ _ _ _ _ _ e => by simp at e⟩
theorem SlsAt.cons {v : V} {s : Sl} {vs : List V} {ss : List Sl} (S1 : Step EX G H G1 H1) (S2 : Step EX G1 H1 G2 H2) (h : SlAt K EX G1 H1 (some (some v)) s) (fr : ∀ m a b, s = .mu m → v = .ref a → b ∈ m.owns a → H b = none)
    (h2 : SlsAt K EX G2 H1 H2 vs ss) : SlsAt K EX G2 H H2 (v :: vs) (s :: ss) where
  len := by rw [List.length_cons, List.length_cons, h2.len]
  at_ := fun i t e => by
    cases i with
    | zero =>
      simp only [List.getElem?_cons_zero, Option.some.injEq] at e
      subst e
      exact h.step S2
    | succ i =>
      simp only [List.getElem?_cons_succ] at e ⊢
      exact h2.at_ i t e
  fr := fun i m a b e e2 hb => by
    cases i with
    | zero =>
      simp only [List.getElem?_cons_zero, Option.some.injEq] at e e2
      exact fr m a b e e2 hb
    | succ i =>
      simp only [List.getElem?_cons_succ] at e e2
      exact S1.fresh (h2.fr i m a b e e2 hb)
  df := fun i j m m' a a' b e e' q q' b1 b2 => by
    have key : ∀ (j : Nat) (m m' : Mu) (a a' : Addr), s = .mu m → v = .ref a → ss[j]? = some (.mu m') → vs[j]? = some (.ref a') → b ∈ m.owns a → b ∈ m'.owns a' → False := fun j m m' a a' e1 e2 e3 e4 b1 b2 => by
      have z := h2.fr j m' a' b e3 e4 b2
      obtain ⟨a0, y1, _, y4⟩ := h.mu m e1
      rw [e2] at y1
      cases y1
      obtain ⟨u, hu, _⟩ := muThere y4 b b1
      rw [z] at hu; cases hu
    cases i with
    | zero =>
      cases j with
      | zero => rfl
      | succ j =>
        simp only [List.getElem?_cons_zero, Option.some.injEq, List.getElem?_cons_succ] at e e' q q'
        exact (key j m m' a a' e q e' q' b1 b2).elim
    | succ i =>
      cases j with
      | zero =>
        simp only [List.getElem?_cons_zero, Option.some.injEq, List.getElem?_cons_succ] at e e' q q'
        exact (key i m' m a' a e' q' e q b2 b1).elim
      | succ j =>
        simp only [List.getElem?_cons_succ] at e e' q q'
        rw [h2.df i j m m' a a' b e e' q q' b1 b2]
/-- a slot is given what is its -/
theorem Rel.put (R : Rel K EX G H σ ρ) (i : Nat) {v : V} {s : Sl} (h : SlAt K EX G H (some (some v)) s) (nu : s ≠ .un) (no : ∀ m a b, s = .mu m → v = .ref a → b ∈ m.owns a → ¬ Own σ ρ b) :
    Rel K EX G H (σ.set i (some v)) (ρ.set i s) ∧ ∀ b, Own (σ.set i (some v)) (ρ.set i s) b → (∃ m a, s = .mu m ∧ v = .ref a ∧ b ∈ m.owns a) ∨ Own σ ρ b := by
  cases s with
  | un => exact absurd rfl nu
  | sh w =>
    obtain ⟨v', e, rv⟩ := h.sh w rfl
    cases e
    exact ⟨R.set i rv, fun b q => .inr (own_set q)⟩
  | mu m =>
    obtain ⟨a, e, hg, hm⟩ := h.mu m rfl
    cases e
    exact ⟨R.setMu i hg hm fun b hb => no m a b rfl rfl hb, fun b q => (own_setMu R.len q).imp (fun z => ⟨m, a, rfl, rfl, z⟩) _root_.id⟩
end
section
variable {X : Cx} {e : Expr} {es : List Expr} {t : TE} {tA : TA} {w : WE} {wn : WN} {wd : WD} {wA : WAo}
def wNilO : WAo := fun _ Φ => Φ []
def wConsO (w : WE) (u : WAo) : WAo := fun ρ Φ => w ρ fun r => u ρ fun ss => Φ (.sh r :: ss)
def wConsN (w : WN) (u : WAo) : WAo := fun ρ Φ => w ρ fun m => u ρ fun ss => Φ (.mu m :: ss)
theorem mao_nil : MAo X [] tNil wNilO := ⟨pa_nil, fun EX G H σ ρ Φ R f Q q => q [] G H [] R.refl slsNil f⟩
theorem mao_cons (h : ME X e t w) (h2 : MAo X es tA wA) (hs : starEach (e :: es) X.env = (false, eval e X.env) :: starEach es X.env := by rfl) : MAo X (e :: es) (tCons t tA) (wConsO w wA) := ⟨pa_cons h.pe h2.pa hs, fun EX G H σ ρ Φ R f Q q =>
  h.so EX G H σ ρ _ R f _ fun v G1 H1 r S1 rv f1 => h2.so EX G1 H1 σ ρ _ (R.step S1) f1 _ fun vs G2 H2 ss S2 hs f2 =>
    q (v :: vs) G2 H2 (.sh r :: ss) (S1.trans S2) (.cons S1 S2 (slSh rv) (fun _ _ _ z => by cases z) hs) f2⟩
theorem mao_consN (h : MN X e t wn) (h2 : MAo X es tA wA) (hs : starEach (e :: es) X.env = (false, eval e X.env) :: starEach es X.env := by rfl) : MAo X (e :: es) (tCons t tA) (wConsN wn wA) := ⟨pa_cons h.pe h2.pa hs, fun EX G H σ ρ Φ R f Q q =>
  h.so EX G H σ ρ _ R f _ fun a G1 H1 m S1 hf hm f1 => h2.so EX G1 H1 σ ρ _ (R.step S1) f1 _ fun vs G2 H2 ss S2 hs f2 =>
    q (.ref a :: vs) G2 H2 (.mu m :: ss) (S1.trans S2) (.cons S1 S2 (slMu (fun b hb => (hf b hb).2) hm) (fun m' a' b z z' hb => by cases z; cases z'; exact (hf b hb).1) hs) f2⟩
def wL2N (wd : WD) : WN := fun ρ Φ => wd ρ fun ds => Φ (.l ds)
theorem mn_l (h : ML X e t wd) : MN X e t (wL2N wd) := ⟨h.pe, fun EX G H σ ρ Φ R f Q q => h.so EX G H σ ρ _ R f _ fun a vs G1 H1 ds S1 ha ga ba h1 dd f1 =>
  q a G1 H1 (.l ds) S1 (fun b hb => by rw [owns_l hb]; exact ⟨ha, ga, ba⟩) ⟨vs, h1, dd⟩ f1⟩
/-- {} -/
theorem mn_dK {pos : Pos} : MN X (.Dict [] [] pos) tDNewK (fun _ Φ => Φ (.k [])) := ⟨pe_dnewK, fun EX G H σ ρ Φ R f Q q p hp =>
  q p G _ (.k []) (R.toGd.newOut hp) (fun b hb => by rw [owns_k hb]; exact ⟨hp, R.toGd.free hp, R.toGd.notBox hp⟩) ⟨[], upd_same, .nil⟩ f⟩
theorem mn_dT {pos : Pos} : MN X (.Dict [] [] pos) tDNewT (fun _ Φ => Φ (.t [])) := ⟨pe_dnewT, fun EX G H σ ρ Φ R f Q q p hp =>
  q p G _ (.t []) (R.toGd.newOut hp) (fun b hb => by rw [owns_t hb]; exact ⟨hp, R.toGd.free hp, R.toGd.notBox hp⟩) ⟨[], upd_same, .nil⟩ f⟩
theorem mn_dKL {pos : Pos} : MN X (.Dict [] [] pos) tDNewK (fun _ Φ => Φ (.kl [])) := ⟨pe_dnewK, fun EX G H σ ρ Φ R f Q q p hp =>
  q p G _ (.kl []) (R.toGd.newOut hp) (fun b hb => by rw [show b = p by simpa [Mu.owns, Mu.subs] using hb]; exact ⟨hp, R.toGd.free hp, R.toGd.notBox hp⟩) ⟨upd_same, (fun _ h => by simp at h), by simp⟩ f⟩
/-- x = e, its own -/
def wSetN (i : Nat) (wn : WN) : WS := fun ρ P => wn ρ fun m => P.nx (ρ.set i (.mu m))
theorem ms_setN (i : Nat) {x : Str} {pos pos' : Pos} (hN : X.N.Nodup) (he : MN X e t wn) (hi : X.N[i]? = some x := by rfl) (hx : Loc X.env.scope x := by first | exact Or.inl rfl | exact Or.inr rfl) (hs : swapsWith e (some (.Name x pos')) pos.line X.env = pure false := by rfl)
    (hf : X.fn x = true ∨ X.env.scope.names.lookup x = some .local := by first | exact .inl rfl | exact .inr rfl) : MS X ξ (.Assign [.Name x pos'] e pos) (tAsg t (gName i)) (wSetN i wn) := ⟨ps_set hN hi hx he.pe hs hf, fun EX G H σ ρ P R f D E =>
  he.so EX G H σ ρ _ R f _ fun a G1 H1 m S1 hf hm f1 => by
    have R1 := R.step S1
    refine E.nx EX G1 H1 _ _ S1.s (R1.setMu i (fun b hb => (hf b hb).2) hm fun b hb o => ?_) (fun b q => ?_) f1
    · obtain ⟨_, _, u, hu, _⟩ := R.ownAt (b := b) o
      rw [(hf b hb).1] at hu; cases hu
    · rcases own_setMu R1.len q with z | z
      · exact .inr (hf b z).1
      · exact .inl z⟩
def putR (ρ : Rh) : List Nat → List Sl → Rh
  | i :: is, s :: ss => putR (ρ.set i s) is ss
  | _, _ => ρ
def putS (σ : L2.St) : List Nat → List V → L2.St
  | i :: is, v :: vs => putS (σ.set i (some v)) is vs
  | _, _ => σ
theorem Rel.puts {K : PySem.W.Frag} {EX : Ext} {G H0 H : Hp} {O : Addr → Prop} : ∀ {is : List Nat} {vs : List V} {ss : List Sl} {σ : L2.St} {ρ : Rh}, Rel K EX G H σ ρ → SlsAt K EX G H0 H vs ss → (∀ s ∈ ss, s ≠ .un) → (∀ b, O b → H0 b ≠ none) →
    (∀ b, Own σ ρ b → O b ∨ H0 b = none) → (∀ b, Own σ ρ b → ∀ (j : Nat) (m : Mu) (a : Addr), ss[j]? = some (.mu m) → vs[j]? = some (.ref a) → b ∉ m.owns a) →
    Rel K EX G H (putS σ is vs) (putR ρ is ss) ∧ ∀ b, Own (putS σ is vs) (putR ρ is ss) b → O b ∨ H0 b = none
  | [], vs, ss, σ, ρ, R, _, _, _, h, _ => by
    simp only [putS, putR]
    exact ⟨R, h⟩
  | i :: is, [], ss, σ, ρ, R, A, _, _, h, _ => by
    cases ss with
    | nil =>
      simp only [putS, putR]
      exact ⟨R, h⟩
    | cons s ss => exact absurd A.len (by simp)
  | i :: is, v :: vs, [], σ, ρ, R, A, _, _, h, _ => absurd A.len (by simp)
  | i :: is, v :: vs, s :: ss, σ, ρ, R, A, hu, hO, h, hd => by
    obtain ⟨R1, o1⟩ := R.put i (A.at_ 0 s rfl) (hu s List.mem_cons_self) (fun m a b e1 e2 hb o => hd b o 0 m a (by rw [e1]; rfl) (by rw [e2]; rfl) hb)
    have A' : SlsAt K EX G H0 H vs ss := ⟨by have := A.len; simpa using this, fun j t e => A.at_ (j + 1) t e, fun j m a b e e2 => A.fr (j + 1) m a b e e2, fun j k m m' a a' b e e' q q' b1 b2 => by
      have := A.df (j + 1) (k + 1) m m' a a' b e e' q q' b1 b2
      omega⟩
    simp only [putS, putR]
    refine Rel.puts (is := is) (vs := vs) (ss := ss) (σ := σ.set i (some v)) (ρ := ρ.set i s) R1 A' (fun s hs => hu s (List.mem_cons_of_mem _ hs)) hO (fun b q => ?_) fun b q j m a e1 e2 hb => ?_
    · rcases o1 b q with ⟨m, a, e1, e2, hb⟩ | z
      · exact .inr (A.fr 0 m a b (by rw [e1]; rfl) (by rw [e2]; rfl) hb)
      · exact h b z
    · rcases o1 b q with ⟨m', a', e1', e2', hb'⟩ | z
      · have := A.df 0 (j + 1) m' m a' a b (by rw [e1']; rfl) e1 (by rw [e2']; rfl) e2 hb' hb
        omega
      · exact hd b z (j + 1) m a e1 e2 hb
/-- a, b = x, y; a, b, c = x, y, z -/
def noUn : List Sl → Bool
  | [] => true
  | .un :: _ => false
  | _ :: ss => noUn ss
theorem noUn_iff : ∀ {ss : List Sl}, noUn ss = true → ∀ s ∈ ss, s ≠ .un
  | .sh _ :: ss, h, s, hs => by
    rcases List.mem_cons.mp hs with rfl | q
    · intro z; cases z
    · exact noUn_iff (by simpa [noUn] using h) s q
  | .mu _ :: ss, h, s, hs => by
    rcases List.mem_cons.mp hs with rfl | q
    · intro z; cases z
    · exact noUn_iff (by simpa [noUn] using h) s q
def wPar (is : List Nat) (wA : WAo) : WS := fun ρ P => wA ρ fun ss => ss.length = is.length ∧ noUn ss = true ∧ P.nx (putR ρ is ss)
theorem so_parG {K : PySem.W.Frag} {wA : WAo} {tA : TA} {is : List Nat} (h : SoAo K tA wA) : SoS K ξ (fun D σ H => tA σ H fun vs H1 => vs.length = is.length ∧ D.nx (putS σ is vs) H1) (wPar is wA) := fun EX G H σ ρ P R f D E =>
  h EX G H σ ρ _ R f _ fun vs G1 H1 ss S1 A f1 => by
    obtain ⟨hl, hu, f2⟩ := f1
    have R1 := R.step S1
    obtain ⟨R2, o2⟩ := Rel.puts (O := Own σ ρ) (is := is) R1 A (noUn_iff hu) (fun b o z => by
      obtain ⟨_, _, u, hu, _⟩ := R.ownAt (b := b) o
      rw [z] at hu; cases hu) (fun b o => .inl o) (fun b o j m a e1 e2 hb => by
      obtain ⟨_, _, u, hu, _⟩ := R.ownAt (b := b) o
      rw [A.fr j m a b e1 e2 hb] at hu; cases hu)
    exact ⟨A.len.trans hl, E.nx EX G1 H1 _ _ S1.s R2 o2 f2⟩
theorem ms_par2 {x y : Str} {a b : Expr} {px py pt pos : Pos} {kt k2 : Nat} {pt2 : Pos} (i j : Nat) (hN : X.N.Nodup) (ha : MAo X [a, b] tA wA) (hij : i ≠ j := by decide) (hi : X.N[i]? = some x := by rfl) (hj : X.N[j]? = some y := by rfl)
    (hx : X.env.scope.names.lookup x = some .local := by rfl) (hy : X.env.scope.names.lookup y = some .local := by rfl) (hc : X.calm = true := by rfl)
    (hw : swappedStores [.Tuple [.Name x px, .Name y py] kt pt] (.Tuple [a, b] k2 pt2) X.env = pure (some [x, y]) := by rfl)
    (hs : swapsWithSole [.Tuple [.Name x px, .Name y py] kt pt] (.Tuple [a, b] k2 pt2) pos.line X.env = pure false := by rfl) :
    MS X ξ (.Assign [.Tuple [.Name x px, .Name y py] kt pt] (.Tuple [a, b] k2 pt2) pos) (tPar i j tA) (wPar [i, j] wA) := ⟨ps_par hc hN hi hj hij hx hy ha.pa hw hs, fun EX G H σ ρ P R f D E => by
  have key := so_parG (ξ := ξ) (is := [i, j]) ha.so EX G H σ ρ P R f
  refine ha.so EX G H σ ρ _ R f _ fun vs G1 H1 ss S1 A f1 => ?_
  obtain ⟨hl, hu, f2⟩ := f1
  have R1 := R.step S1
  obtain ⟨R2, o2⟩ := Rel.puts (O := Own σ ρ) (is := [i, j]) R1 A (noUn_iff hu) (fun b o z => by
    obtain ⟨_, _, u, hu, _⟩ := R.ownAt (b := b) o
    rw [z] at hu; cases hu) (fun b o => .inl o) (fun b o j m a e1 e2 hb => by
    obtain ⟨_, _, u, hu, _⟩ := R.ownAt (b := b) o
    rw [A.fr j m a b e1 e2 hb] at hu; cases hu)
  have hl2 : vs.length = 2 := A.len.trans hl
  obtain ⟨u, v, rfl⟩ : ∃ u v, vs = [u, v] := by
    match vs, hl2 with
    | [u, v], _ => exact ⟨u, v, rfl⟩
  exact ⟨u, v, rfl, E.nx EX G1 H1 _ _ S1.s R2 o2 f2⟩⟩
theorem ms_par3 {x y z : Str} {a b c : Expr} {px py pz pt pos : Pos} {kt k2 : Nat} {pt2 : Pos} (i j l : Nat) (hN : X.N.Nodup) (ha : MAo X [a, b, c] tA wA) (hij : i ≠ j := by decide) (hil : i ≠ l := by decide) (hjl : j ≠ l := by decide) (hi : X.N[i]? = some x := by rfl) (hj : X.N[j]? = some y := by rfl) (hk : X.N[l]? = some z := by rfl)
    (hx : X.env.scope.names.lookup x = some .local := by rfl) (hy : X.env.scope.names.lookup y = some .local := by rfl) (hz : X.env.scope.names.lookup z = some .local := by rfl) (hc : X.calm = true := by rfl)
    (hw : swappedStores [.Tuple [.Name x px, .Name y py, .Name z pz] kt pt] (.Tuple [a, b, c] k2 pt2) X.env = pure (some [x, y, z]) := by rfl)
    (hs : swapsWithSole [.Tuple [.Name x px, .Name y py, .Name z pz] kt pt] (.Tuple [a, b, c] k2 pt2) pos.line X.env = pure false := by rfl) :
    MS X ξ (.Assign [.Tuple [.Name x px, .Name y py, .Name z pz] kt pt] (.Tuple [a, b, c] k2 pt2) pos) (tPar3 i j l tA) (wPar [i, j, l] wA) := ⟨ps_par3 hc hN hi hj hk hij hil hjl hx hy hz ha.pa hw hs, fun EX G H σ ρ P R f D E => by
  refine ha.so EX G H σ ρ _ R f _ fun vs G1 H1 ss S1 A f1 => ?_
  obtain ⟨hl, hu, f2⟩ := f1
  have R1 := R.step S1
  obtain ⟨R2, o2⟩ := Rel.puts (O := Own σ ρ) (is := [i, j, l]) R1 A (noUn_iff hu) (fun b o z => by
    obtain ⟨_, _, u, hu, _⟩ := R.ownAt (b := b) o
    rw [z] at hu; cases hu) (fun b o => .inl o) (fun b o j m a e1 e2 hb => by
    obtain ⟨_, _, u, hu, _⟩ := R.ownAt (b := b) o
    rw [A.fr j m a b e1 e2 hb] at hu; cases hu)
  have hl2 : vs.length = 3 := A.len.trans hl
  obtain ⟨u, v, w, rfl⟩ : ∃ u v w, vs = [u, v, w] := by
    match vs, hl2 with
    | [u, v, w], _ => exact ⟨u, v, w, rfl⟩
  exact ⟨u, v, w, rfl, E.nx EX G1 H1 _ _ S1.s R2 o2 f2⟩⟩
end
end Pd
end

section
set_option Elab.async false
set_option linter.all false
set_option maxRecDepth 100000
set_option autoImplicit false
set_option maxHeartbeats 1000000
/-! Pd, defs: what a def promises of data (a call's guards stay empty, so repr may stand in it) -/
namespace Pd
open PySem PySem.Spec PyProof.Rows L2
variable {ξ : XI}

abbrev FW := List W → (W → Prop) → Prop
/-- at the level of values: F over data; a def has no own slots at its start -/
def SpD (K : PySem.W.Frag) (n : Nat) (F : FW) (vs : List V) (H : Hp) (Q : VK) : Prop := vs.length = n ∧ ∃ (EX : Ext) (G : Hp) (ws : List W) (Φ : W → Prop), Gd K EX G H ∧ RwAll K EX G vs ws ∧ F ws Φ ∧
  ∀ EX' G' H' v r, SStep EX (fun _ => False) G H EX' G' H' → Gd K EX' G' H' → Rw K EX' G' v r → Φ r → Q v H'
structure FnG (P : Program) (w : World) (K : PySem.W.Frag) (mg : Str → Option Value) (base : Heap) (k : Nat) (f : Addr) (fd : FuncData) (ps : List Str) (F : FW) : Prop where
  run : ∀ (A : Around) (outer : List Env) (s : Shared) (H : Hp) (args : Args) (us : List Value) (vs : List V) (Q : VK), Room k A → A.guards = some [] → Env0 P w K mg base A outer s H → BindsTo s fd args (ps.zip us) → Vals vs us →
    SpD K ps.length F vs H Q → codeAny (model P w) A (.call (.ref f) args) (CR CX0 outer P w H s Q E0) s
theorem FnG.mono {P : Program} {w : World} {K : PySem.W.Frag} {mg : Str → Option Value} {base : Heap} {j k : Nat} {f : Addr} {fd : FuncData} {ps : List Str} {F : FW} (h : FnG P w K mg base j f fd ps F) (l : j ≤ k) : FnG P w K mg base k f fd ps F :=
  ⟨fun A outer s H args us vs Q hr hg => h.run A outer s H args us vs Q (hr.mono l) hg⟩
/-- a weaker promise -/
theorem FnG.imp {P : Program} {w : World} {K : PySem.W.Frag} {mg : Str → Option Value} {base : Heap} {k : Nat} {f : Addr} {fd : FuncData} {ps : List Str} {F F' : FW} (h : FnG P w K mg base k f fd ps F) (l : ∀ ws Φ, F' ws Φ → F ws Φ) : FnG P w K mg base k f fd ps F' :=
  ⟨fun A outer s H args us vs Q hr hg e b v ⟨q1, EX, G, ws, Φ, q2, q3, q4, q5⟩ => h.run A outer s H args us vs Q hr hg e b v ⟨q1, EX, G, ws, Φ, q2, q3, l _ _ q4, q5⟩⟩

def startR (N : List Str) (ws : List W) : Rh := ws.map Sl.sh ++ List.replicate (N.length - ws.length) .un
theorem startR_rel {K : PySem.W.Frag} {EX : Ext} {G H : Hp} {N : List Str} {vs : List V} {ws : List W} (R : Gd K EX G H) (h : RwAll K EX G vs ws) : Rel K EX G H (L2.start N vs) (startR N ws) ∧ ∀ b, ¬ Own (L2.start N vs) (startR N ws) b := by
  have hl : vs.length = ws.length := Paired.length h
  have nomu : ∀ (i : Nat) (m : Mu), (startR N ws)[i]? ≠ some (.mu m) := fun i m e => by
    unfold startR at e
    by_cases hi : i < ws.length
    · rw [List.getElem?_append_left (by simpa using hi), List.getElem?_map] at e
      cases q : ws[i]? with
      | none => rw [q] at e; cases e
      | some x => rw [q] at e; cases e
    · rw [List.getElem?_append_right (by simpa using hi), List.getElem?_replicate] at e
      split at e <;> cases e
  refine ⟨⟨R, fun i s e => ?_, fun i j m m' a a' b e => absurd e (nomu i m), ?_⟩, fun b ⟨i, m, a, e, _⟩ => nomu i m e⟩
  · unfold startR at e
    unfold L2.start
    by_cases hi : i < ws.length
    · rw [List.getElem?_append_left (by simpa using hi), List.getElem?_map] at e
      rw [List.getElem?_append_left (by simpa [hl] using hi), List.getElem?_map]
      have key : ∀ {vs : List V} {ws : List W} (_ : RwAll K EX G vs ws) (i : Nat) (s : Sl), (ws[i]?).map Sl.sh = some s → SlAt K EX G H ((vs[i]?).map some) s := by
        intro vs ws h
        induction h with
        | nil => intro i s e; simp at e
        | cons h t ih =>
          intro i s e
          cases i with
          | zero =>
            simp only [List.getElem?_cons_zero, Option.map_some, Option.some.injEq] at e ⊢
            subst e
            exact slSh h
          | succ i =>
            simp only [List.getElem?_cons_succ] at e ⊢
            exact ih i s e
      exact key h i s e
    · rw [List.getElem?_append_right (by simpa using hi), List.getElem?_replicate] at e
      split at e
      · cases e
        exact slUn
      · cases e
  · unfold startR L2.start
    rw [List.length_append, List.length_append, List.length_map, List.length_map, List.length_replicate, List.length_replicate, hl]
section
variable {P : Program} {w : World} {K : PySem.W.Frag} {mg : Str → Option Value} {base : Heap}
def xi0 : XI := fun _ _ _ _ => True
/-- a def by its body, over data -/
theorem fn_g {x qual : Str} {st : Stmt} {f : Addr} {fd : FuncData} {N ps : List Str} {k : Nat} {F : FW} (FN : Fun K x qual st f fd) (S : FnScope N ps (defScope st))
    (hbody : ∀ (cdv : Value) (A : Around) (outer : List Env) (s : Shared) (H : Hp), Room k (A.deeper (envOfC qual (defScope st) s.heap.objs.size f cdv)) → (A.deeper (envOfC qual (defScope st) s.heap.objs.size f cdv)).guards = some [] →
      ∃ (t : TS) (u : WS), MSs (cxOf CX0 P w K mg base N qual (defScope st) f cdv A outer s H E0).nox ξ (defBody st) t u ∧ ∀ ws Φ, F ws Φ → u (startR N ws) ⟨fun _ => Φ (.d .none), Φ, fun _ => False, fun _ => False, fun _ _ => False⟩) : FnG P w K mg base (k + 1) f fd ps F := by
  obtain ⟨oc, od, kV, doc, pm, an, cdv, ct, osl, rfl, lk, hcd⟩ := FN.ex
  constructor
  intro A outer s H args us vs Q hr hg e0 hb r ⟨hl, EX, G, ws, Φ, gd, rw0, hF, hQ⟩
  have kin : K.In s.heap := e0.mod.kin.keeps fun b o e => (e0.bs b o e).1
  have nolim : s.heap.NoLimit := e0.mod.nolimit.keeps fun b o e => (e0.bs b o e).1
  obtain ⟨t, u, hM, hW⟩ := hbody cdv A outer s H (hr.deeper _) hg
  obtain ⟨R0, noOwn⟩ := startR_rel (N := N) gd rw0
  have hq : t { nx := fun _ H' => Q .non H', rt := Q } (L2.start N vs) H := by
    refine hM.so EX G H _ _ _ R0 (hW ws Φ hF) _ ⟨fun EX' G' H' σ' ρ' S1 R1 o1 f1 => ?_, fun _ _ _ _ _ _ _ _ f1 => f1.elim, fun _ _ _ _ _ _ _ _ f1 => f1.elim, fun EX' G' H' v r' S1 R1 rv f1 => ?_, fun _ _ _ _ _ _ _ _ _ f1 => f1.elim⟩
    · exact hQ EX' G' H' .non (.d .none) ⟨fun b o q => (S1.st b o q).imp _root_.id fun z => .inr (z.resolve_left fun y => noOwn b y), S1.bb, fun b q => (S1.bn b q).imp _root_.id fun z => .inl (z.resolve_right fun y => noOwn b y), S1.gg, fun b o q => (S1.gn b o q).imp _root_.id fun z => .inl (z.resolve_right fun y => noOwn b y)⟩ R1.toGd Dd.non f1
    · exact hQ EX' G' H' v r' ⟨fun b o q => (S1.st b o q).imp _root_.id fun z => .inr (z.resolve_left fun y => noOwn b y), S1.bb, fun b q => (S1.bn b q).imp _root_.id fun z => .inl (z.resolve_right fun y => noOwn b y), S1.gg, fun b o q => (S1.gn b o q).imp _root_.id fun z => .inl (z.resolve_right fun y => noOwn b y)⟩ R1 rv f1
  have par : ∀ y ∈ ps.zip us, (defScope st).names.lookup y.1 = some .local ∨ ((defScope st).names.lookup y.1 = some .cell ∧ ((cellsFrom (s.heap.objs.size + 1) (defScope st).names []).lookup y.1).isSome = true) := by
    rintro ⟨n, v⟩ hy
    exact (S.par n (List.of_mem_zip hy).1).imp _root_.id fun q => ⟨q, PySem.W.cellsFrom_some _ _ _ (.inl q)⟩
  refine codeAny_call_function hr.depth (kin _ _ lk) rfl S.co S.gen rfl (PySem.W.codeRec_of kin hcd) (hb _ _ _ _ ?_)
  refine wpAny_newFunctionEnv_cells S.kind par fun env he s1 x1 => ?_
  subst he
  refine ⟨nolim.keeps x1.toInCall.keep, codeAny_func ?_⟩
  have I0 := inv_start (CX := CX0) (E := E0) (cd := cdv) (f := f) (qual := qual) (w := w) S hr.hd e0 hl r x1
  refine wpAny_mono (hM.ps.nox.run [] s1 _ H _ I0 hq) (fun fl s' hs => ?_) fun _ _ hs => hs
  cases fl with
  | next =>
    obtain ⟨σ', H', J, q⟩ := hs
    exact ⟨.non, H', J.os, J.bare, J.base, J.hok, rfl, q⟩
  | ret u =>
    obtain ⟨v, σ', H', J, rv, q⟩ := hs
    exact ⟨v, H', J.os, J.bare, J.base, J.hok, rv, q⟩
  | brk => obtain ⟨_, _, _, q⟩ := hs; exact q.elim
  | cont => obtain ⟨_, _, _, q⟩ := hs; exact q.elim
/-- a def that may be called by its name -/
structure Cl (P : Program) (w : World) (K : PySem.W.Frag) (mg : Str → Option Value) (base : Heap) (k : Nat) (x : Str) (n : Nat) (F : FW) : Prop where
  ex : ∃ (f : Addr) (fd : FuncData) (ps : List Str), ps.length = n ∧ FnG P w K mg base k f fd ps F ∧ mg x = some (.ref f) ∧ PySem.W.keepIn K (.ref f) = true ∧ Binds K fd ps []
theorem Cl.mono {j k n : Nat} {x : Str} {F : FW} (c : Cl P w K mg base j x n F) (l : j ≤ k) : Cl P w K mg base k x n F := by
  obtain ⟨f, fd, ps, h1, h2, h3⟩ := c.ex
  exact ⟨f, fd, ps, h1, h2.mono l, h3⟩
theorem Cl.imp {k n : Nat} {x : Str} {F F' : FW} (c : Cl P w K mg base k x n F) (l : ∀ ws Φ, F' ws Φ → F ws Φ) : Cl P w K mg base k x n F' := by
  obtain ⟨f, fd, ps, h1, h2, h3⟩ := c.ex
  exact ⟨f, fd, ps, h1, h2.imp l, h3⟩
/-- what the top has laid of a def -/
structure Df (K : PySem.W.Frag) (mg : Str → Option Value) (x : Str) (st : Stmt) (ps : List Str) : Prop where
  ex : ∃ (f : Addr) (fd : FuncData), Fun K x x st f fd ∧ mg x = some (.ref f) ∧ Binds K fd ps []
theorem Df.cl {x : Str} {st : Stmt} {N ps : List Str} {k : Nat} {F : FW} (d : Df K mg x st ps) (S : FnScope N ps (defScope st))
    (hbody : ∀ (f : Addr) (cdv : Value) (A : Around) (outer : List Env) (s : Shared) (H : Hp), Room k (A.deeper (envOfC x (defScope st) s.heap.objs.size f cdv)) → (A.deeper (envOfC x (defScope st) s.heap.objs.size f cdv)).guards = some [] →
      ∃ (t : TS) (u : WS), MSs (cxOf CX0 P w K mg base N x (defScope st) f cdv A outer s H E0).nox ξ (defBody st) t u ∧ ∀ ws Φ, F ws Φ → u (startR N ws) ⟨fun _ => Φ (.d .none), Φ, fun _ => False, fun _ => False, fun _ _ => False⟩) : Cl P w K mg base (k + 1) x ps.length F := by
  obtain ⟨f, fd, h1, h2, h3⟩ := d.ex
  exact ⟨f, fd, ps, rfl, fn_g h1 S (hbody f), h2, h1.kp, h3⟩
end
section
variable {X : Cx} {x : Str} {k n : Nat} {F : FW} {e : Expr} {es : List Expr} {tA : TA} {wA : WA} {p pos pos' : Pos}
def tCallD (K : PySem.W.Frag) (n : Nat) (F : FW) (t : TA) : TE := fun σ H Q => t σ H fun vs H1 => SpD K n F vs H1 Q
theorem pe_callD (c : Cl X.prog X.w X.K X.mg X.base k x n F) (hr : Room k X.A) (hgd : X.A.guards = some []) (hg : Gl X x) (ha : PA X (e :: es) tA) (hdb : (x == ("__debug__" : Str)) = false)
    (he : starEach (e :: es) X.env = (false, eval e X.env) :: starEach es X.env) (hpl : (backTo pos (starEach es X.env)).any (·.1) = false) : PE X (.Call (.Name x p) (e :: es) [] pos) (tCallD X.K n F tA) := by
  obtain ⟨f, fd, ps, hn, hF, hm, hk, hb⟩ := c.ex
  subst hn
  constructor
  intro pins s σ H Q I h
  refine wpAny_Call_Name_kw (ld_glob I hg hm ?_ hdb)
  refine PySem.W.callWith_K (h₀ := X.base) I.ok.mod.kin hk (thn (ha.run pos pins s σ H _ I h) fun us s1 ⟨vs, H1, I1, r, q⟩ => ⟨I1.kIn, wpAny_call ?_⟩) he hpl
  have hlen : (us ++ []).length = ps.length := by rw [List.append_nil, ← r.length]; exact q.1
  have hbb := hb s1 us I1.kIn hlen
  rw [List.append_nil] at hbb
  refine codeAny_mono (hF.run X.A X.stack s1 H1 ⟨us, []⟩ us vs Q hr hgd I1.env0 hbb r q) fun res s' hq => ?_
  match res, hq with
  | .ok (.ret u), hq => exact I1.after hq
/-- what a call says in an expression: data alone come back -/
def dOnly (Φ : W → Prop) : W → Prop
  | .d x => Φ (.d x)
  | .dk x => Φ (.dk x)
  | .dt x => Φ (.dt x)
  | _ => False
def wCallD (F : FW) (wA : WA) : WE := fun ρ Φ => wA ρ fun ws => F ws (dOnly Φ)
theorem spD_step {K : PySem.W.Frag} {EX EX' : Ext} {G H G' H' : Hp} (S : SStep EX (fun _ => False) G H EX' G' H') (R : Gd K EX' G' H') : Step EX G H G' H' where
  st := fun b o h => (S.st b o h).imp _root_.id fun z => z.resolve_left _root_.id
  bx := fun b h => R.bx b (S.bb b _ h)
  gg := S.gg
  sub := R.sub
  gn := fun b o h => (S.gn b o h).imp _root_.id fun z => z.resolve_right _root_.id
  ex := fun b h => R.ex b (S.bb b _ h)
theorem so_callD {K : PySem.W.Frag} (h : SoA K tA wA) (hl : ∀ ws Φ, F ws Φ → ws.length = n) : SoE K (tCallD K n F tA) (wCallD F wA) := fun EX G H σ ρ Φ R f Q q => h EX G H σ ρ _ R f _ fun vs G1 H1 ws S1 rv f1 => by
  refine ⟨(Paired.length rv).trans (hl _ _ f1), EX, G1, ws, _, R.toGd.step S1, rv, f1, fun EX' G' H' v r S2 R2 rr fr => ?_⟩
  have S12 := S1.trans (spD_step S2 R2)
  unfold dOnly at fr
  split at fr
  · exact q v G' H' (.d _) S12 rr fr
  · exact q v G' H' (.dk _) S12 rr fr
  · exact q v G' H' (.dt _) S12 rr fr
  · exact fr.elim
theorem me_callD (c : Cl X.prog X.w X.K X.mg X.base k x n F) (hr : Room k X.A) (hgd : X.A.guards = some []) (hl : ∀ ws Φ, F ws Φ → ws.length = n) (ha : MA X (e :: es) tA wA) (hg : Gl X x := by rfl) (hdb : (x == ("__debug__" : Str)) = false := by decide)
    (he : starEach (e :: es) X.env = (false, eval e X.env) :: starEach es X.env := by rfl) (hpl : (backTo pos (starEach es X.env)).any (·.1) = false := by rfl) : ME X (.Call (.Name x p) (e :: es) [] pos) (tCallD X.K n F tA) (wCallD F wA) :=
  ⟨pe_callD c hr hgd hg ha.pa hdb he hpl, so_callD ha.so hl⟩
/-- x = f(..), that gives a box -/
def wSetC (i : Nat) (F : FW) (wA : WA) : WS := fun ρ P => wA ρ fun ws => F ws fun r => match r with
  | .p a => P.nx (ρ.set i (.sh (.p a)))
  | _ => False
theorem ms_setC (i : Nat) {y : Str} {ps : Pos} (hN : X.N.Nodup) (c : Cl X.prog X.w X.K X.mg X.base k x n F) (hr : Room k X.A) (hgd : X.A.guards = some []) (hl : ∀ ws Φ, F ws Φ → ws.length = n) (ha : MA X (e :: es) tA wA) (hg : Gl X x := by rfl) (hdb : (x == ("__debug__" : Str)) = false := by decide)
    (he : starEach (e :: es) X.env = (false, eval e X.env) :: starEach es X.env := by rfl) (hpl : (backTo pos (starEach es X.env)).any (·.1) = false := by rfl)
    (hi : X.N[i]? = some y := by rfl) (hx : Loc X.env.scope y := by first | exact Or.inl rfl | exact Or.inr rfl) (hs : swapsWith (.Call (.Name x p) (e :: es) [] pos) (some (.Name y ps)) pos'.line X.env = pure false := by rfl)
    (hf : X.fn y = true ∨ X.env.scope.names.lookup y = some .local := by first | exact .inl rfl | exact .inr rfl) : MS X ξ (.Assign [.Name y ps] (.Call (.Name x p) (e :: es) [] pos) pos') (tAsg (tCallD X.K n F tA) (gName i)) (wSetC i F wA) :=
  ⟨ps_set hN hi hx (pe_callD c hr hgd hg ha.pa hdb he hpl) hs hf, fun EX G H σ ρ P R f D E => ha.so EX G H σ ρ _ R f _ fun vs G1 H1 ws S1 rv f1 => by
    refine ⟨(Paired.length rv).trans (hl _ _ f1), EX, G1, ws, _, R.toGd.step S1, rv, f1, fun EX' G' H' v r S2 R2 rr fr => ?_⟩
    split at fr
    · rename_i a
      have R1 := R.step S1
      have S3 := spD_step S2 R2
      have R3 : Rel X.K EX' G' H' σ ρ := by
        have Ra := R1.step S3
        refine ⟨R2, fun j s e => ?_, Ra.df, Ra.len⟩
        have A := Ra.sl j s e
        refine ⟨fun w z => ?_, fun m z => ?_⟩
        · obtain ⟨v, y1, y2⟩ := A.sh w z
          exact ⟨v, y1, rwMono (Same.refl _) S2.bb y2⟩
        · obtain ⟨a', y1, y2, y4⟩ := A.mu m z
          refine ⟨a', y1, fun b hb => ⟨(y2 b hb).1, fun bx => ?_⟩, y4⟩
          rcases S2.bn b bx with z1 | z1 | z1
          · exact (y2 b hb).2 z1
          · obtain ⟨_, _, u, hu, _⟩ := R1.ownAt (b := b) ⟨j, m, a', by rw [e, z], y1, hb⟩
            rw [z1] at hu; cases hu
          · exact z1
      refine E.nx EX' G' H' _ _ ⟨fun b o q => ?_, S2.bb, fun b q => ?_, S1.gg.trans S2.gg, fun b o q => ?_⟩ (R3.set i rr) (fun b q => .inl (own_set q)) fr
      · rcases S1.st b o q with z | z
        · exact .inl z
        · exact ((S2.st b o z).imp _root_.id fun y => .inr (y.resolve_left _root_.id))
      · rcases S2.bn b q with z | z | z
        · exact .inl z
        · exact .inr (.inl (S1.fresh z))
        · exact z.elim
      · rcases S2.gn b o q with z | z | z
        · exact (S1.gn b o z).imp _root_.id .inl
        · exact .inr (.inl (S1.fresh z))
        · exact z.elim
    · exact fr.elim⟩
/-- return of a new list of three ints: a box -/
def wRetB (wd : WD) : WS := fun ρ P => wd ρ fun ds => match ds with
  | [.int _, .int _, .int _] => ∀ a, P.rt (.p a)
  | _ => False
theorem ms_retB {t : TE} {wd : WD} (h : ML X e t wd) : MS X ξ (.Return (some e) pos) (tRet t) (wRetB wd) := ⟨ps_ret h.pe, fun EX G H σ ρ P R f D E => h.so EX G H σ ρ _ R f _ fun a vs G1 H1 ds S1 ha ga ba h1 dd f1 => by
  split at f1
  · rename_i i j k
    have R1 := R.toGd.step S1
    have hv : vs = [.int i, .int j, .int k] := by
      cases dd with
      | cons d1 t1 =>
        cases t1 with
        | cons d2 t2 =>
          cases t2 with
          | cons d3 t3 =>
            cases t3
            cases d1
            cases d2
            cases d3
            rfl
    subst hv
    refine E.rt (fun b q => EX b q ∨ (b = a ∧ q = .box)) G1 H1 (.ref a) (.p a) ⟨fun b o q => (S1.st b o q).imp _root_.id .inr, fun b q z => .inl z, fun b z => ?_, S1.gg, fun b o q => (S1.gn b o q).imp _root_.id .inl⟩ ⟨R1.sub, fun b z => ?_, fun b ns z => ?_, fun b z => ?_⟩ ⟨rfl, .inr ⟨rfl, rfl⟩⟩ (f1 a)
    · rcases z with z | ⟨rfl, _⟩
      · exact .inl z
      · exact .inr (.inl ha)
    · rcases z with z | ⟨rfl, _⟩
      · exact R1.bx b z
      · exact ⟨i, j, k, h1⟩
    · rcases z with z | ⟨_, z⟩
      · exact R1.sc b ns z
      · cases z
    · rcases z with z | ⟨rfl, _⟩
      · exact R1.ex b z
      · exact ga
  · exact f1.elim⟩
end
/-! ### the head of a law -/
def FLaw (m : Nat) : FW := fun ws Φ => ∃ a ns, ws = [.sq a ns] ∧ ns.length ≤ m ∧ Φ (.d (.bool true))
theorem scr_of {K : PySem.W.Frag} {H : Hp} {a : Addr} {ns : List Int} (hO : Only H) (h : SqL K H a (ns.map V.int)) : ScrAt K H a ns := by
  rcases h with (h | ⟨o, h⟩) | h
  · rcases hO a with z | ⟨o, xs, z⟩
    · rw [h] at z; cases z
    · rw [h] at z; cases z
  · exact .inl ⟨o, h⟩
  · exact .inr h
theorem law_sp {K : PySem.W.Frag} {H : Hp} {a : Addr} {ns : List Int} {m : Nat} (hl : ns.length ≤ m) (hO : Only H) (h : SqL K H a (ns.map V.int)) : SpD K 1 (FLaw m) [.ref a] H fun v _ => v = .bl true := by
  refine ⟨rfl, fun b k => b = a ∧ k = .scr ns, fun _ => none, [.sq a ns], fun r => r = .d (.bool true), ⟨fun b o z => (by cases z), fun b z => ?_, fun b ns' z => ?_, fun b z => rfl⟩, .cons ⟨rfl, rfl, rfl⟩ .nil, ⟨a, ns, rfl, hl, rfl⟩, fun EX' G' H' v r S R rr e => ?_⟩
  · cases z.2
  · obtain ⟨rfl, z⟩ := z
    cases z
    exact scr_of hO h
  · subst e
    exact rwBool rr
end Pd
end

section
set_option Elab.async false
set_option linter.all false
set_option maxRecDepth 100000
set_option autoImplicit false
set_option maxHeartbeats 1000000
/-! Pd, the head of a law -/
namespace Pd
open PySem PySem.Spec PyProof.Rows L2
/-- the heap at the call: nothing is tracked but the script, where the written part does not have it -/
noncomputable def headH (K : PySem.W.Frag) (a : Addr) (o : Obj) (ns : List Int) : Hp := open Classical in fun b => if b = a ∧ K.lookup a = none then some (.frz o (.lst (ns.map V.int))) else none
theorem headH_some {K : PySem.W.Frag} {a b : Addr} {o : Obj} {ns : List Int} {u : HO} (h : headH K a o ns b = some u) : b = a ∧ K.lookup a = none ∧ u = .frz o (.lst (ns.map V.int)) := by
  unfold headH at h
  split at h
  · rename_i q
    exact ⟨q.1, q.2, (Option.some.inj h).symm⟩
  · cases h
theorem headH_at {K : PySem.W.Frag} {a : Addr} {o : Obj} {ns : List Int} (h : K.lookup a = none) : headH K a o ns a = some (.frz o (.lst (ns.map V.int))) := if_pos ⟨rfl, h⟩
theorem head_call {P : Program} {w : World} {K : PySem.W.Frag} {mg mb : Str → Option Value} {k m : Nat} {fa a : Addr} {fd : FuncData} {x : Str} {s : Shared} {vs : List Value} {ns : List Int} (kin : K.In s.heap) (nsM : s.heap.Ns mainGlobals mg) (nsB : s.heap.Ns builtinsNs mb)
    (blt : ∀ x : Str, x ≠ "__name__" → mb x = bootBuiltins x) (nolim : s.heap.NoLimit) (nog : s.gens = #[]) (obj : s.heap.get? a = some { cls := .type "list", data := .seq vs.toArray }) (isI : IntsAre vs ns) (short : ns.length ≤ m) (short2 : m ≤ sizeLine) (room : Room k callerA)
    (FF : ∀ base : Heap, K.In base → base.Ns mainGlobals mg → FnG P w K mg base k fa fd [x] (FLaw m)) (bnd : ∀ (s : Shared) (u : Value), BindsTo s fd ⟨[u], []⟩ [(x, u)]) :
    codeAny (model P w) callerA (.call (.ref fa) ⟨[.ref a], []⟩) (fun r s' => r = .ok (.ret (.bool true)) ∧ OldK s.heap s'.heap ∧ s'.os = s.os ∧ AllBare s'.gens) s := by
  have rv := vals_ints isI
  have lv := isI.length
  have fits : ns.length ≤ sizeLine := Nat.le_trans short short2
  let o : Obj := { cls := .type "list", data := .seq vs.toArray }
  let H : Hp := headH K a o ns
  have only : Only H := fun b => by
    cases q : H b with
    | none => exact .inl rfl
    | some u =>
      obtain ⟨_, _, rfl⟩ := headH_some q
      exact .inr ⟨o, _, rfl⟩
  have seq : SqL K H a (ns.map V.int) := by
    cases q : K.lookup a with
    | none => exact .inl (.inr ⟨o, headH_at q⟩)
    | some o' =>
      have e := kin a o' q
      rw [obj] at e
      cases e
      exact .inr ⟨_, vs.toArray, _, q, rfl, rfl, rfl, by rw [List.size_toArray, lv]; exact fits, by simpa using rv⟩
  have hok : HOk P w H s.heap := fun b u z => by
    obtain ⟨rfl, _, rfl⟩ := headH_some z
    exact ⟨obj, by rw [List.length_map]; exact fits, vs, _, rv, obj⟩
  have free : ∀ {b : Addr} {ob : Obj}, s.heap.get? b = some ob → (∀ v n, ob.data ≠ .seq v n) → H b = none := fun {b ob} e nd => by
    cases q : H b with
    | none => rfl
    | some u =>
      obtain ⟨rfl, _, _⟩ := headH_some q
      rw [obj] at e
      cases e
      exact absurd rfl (nd _ _)
  have nsT : ∀ {b : Addr} {g : Str → Option Value}, s.heap.Ns b g → (hidT s.heap H).Ns b g := fun {b g} ⟨ob, es, ep, e, d, r⟩ => ⟨ob, es, ep, hidT_get e (free e fun v n z => by rw [d] at z; cases z), d, r⟩
  have kinT : K.In (hidT s.heap H) := fun b ob e => hidT_get (kin b ob e) (by
    cases q : H b with
    | none => rfl
    | some u =>
      obtain ⟨rfl, z, _⟩ := headH_some q
      rw [z] at e; cases e)
  have modT : Mod K mg (hidT s.heap H) := ⟨kinT, nsT nsM, ⟨mb, nsT nsB, blt⟩, by obtain ⟨mc, q1, q2⟩ := nolim; exact ⟨mc, nsT q1, q2⟩⟩
  have env : Env0 P w K mg (hidT s.heap H) callerA [] s H := ⟨rfl, modT, fun b ob e => of_hidT e, Nat.le_of_eq (hidT_size _ _), trivial, fun b hb => by exact absurd (show b ∈ ([] : List Addr) from hb) (by simp), hok, .of_eq nog⟩
  have go := (FF _ kinT (nsT nsM)).run callerA [] s H ⟨[.ref a], []⟩ [.ref a] [.ref a] _ room rfl env (bnd s (.ref a)) (.cons rfl .nil) (law_sp short only seq)
  refine codeAny_mono go fun r s' h => ?_
  match r, h with
  | .ok (.ret u), ⟨v, H', os, bare, un, hok', r', q⟩ =>
    have q' : v = .bl true := q
    subst q'
    have eu : u = Value.bool true := r'
    subst eu
    refine ⟨rfl, OldK.of_keep fun b ob e => ?_, os, bare⟩
    cases q : H b with
    | none => exact un.keep b ob e q (fun z => absurd (show b ∈ ([] : List Addr) from z) (by simp)) (by simp)
    | some u =>
      obtain ⟨rfl, z, rfl⟩ := headH_some q
      obtain ⟨e2, _⟩ := hok' _ _ (un.frzs _ _ _ q)
      rw [obj] at e
      cases e
      exact e2
/-- the head, by what the top has laid -/
theorem head_of {l : PySem.W.OpenLaw} {n k : Nat} {q : Program} {loose : List Str} {XP : (Str → Option Value) → Heap → Prop} {YP : World → Heap → Prop} {d : DefRec} {K : Params → PySem.W.Frag} {x : Str} (hn : l.most = some n) (hn2 : n ≤ sizeLine) (hdf : d.params.defaults = []) (room : Room k callerA)
    (hY : ∀ (w : World) (h : Heap), YP w h → (K w.params).In h)
    (FF : ∀ (w : World) (mg : Str → Option Value) (fa : Addr) (h : Heap), (K w.params).In h → h.Ns mainGlobals mg → mg d.name = some (.ref fa) →
      ∃ fd : FuncData, (∀ (s : Shared) (u : Value), BindsTo s fd ⟨[u], []⟩ [(x, u)]) ∧ ∀ base : Heap, (K w.params).In base → base.Ns mainGlobals mg → FnG l.prog w (K w.params) mg base k fa fd [x] (FLaw n)) :
    PySem.W.WalkO q loose XP YP l.row.toRowW d [] (fun f vs => PySem.call f vs) := by
  refine Att.attach_call hn hdf ?_
  intro w s₀ s₁ mg mb fa o pm cd doc a vs ns G Y ho hd hcd hmg hobj hints hlen hg
  obtain ⟨fd, hb, hF⟩ := FF w mg fa _ (hY w _ Y) G.T.g hmg
  exact head_call (hY w _ Y) G.T.g G.T.b G.T.builtins G.T.nolimit hg hobj hints hlen hn2 room hF hb
end Pd
end

section
set_option Elab.async false
set_option linter.all false
set_option maxRecDepth 100000
set_option autoImplicit false
set_option maxHeartbeats 1000000
/-! Pd, more built-ins -/
namespace Pd
open PySem PySem.Spec PyProof.Rows L2

/-! ### repr -/
/-- what may be shown -/
def reprOk (x : D) : Bool := x.showable && decide (x.depth ≤ 64) && decide (x.weight ≤ 1048576) && x.intsShort 13 && (match x with | .list _ => true | .tuple _ => true | _ => false)
def oRepr : FA := fun ws Φ => match ws with
  | [.d x] => reprOk x = true ∧ Φ (.rp x)
  | _ => False
def rReprD (K : PySem.W.Frag) : List V → Hp → VK → Prop := fun xs H Q => ∃ d a, xs = [.ref a] ∧ Dp K H (.ref a) d ∧ d.canLay0 = true ∧ reprOk d = true ∧ Q (.str d.shown) H
mutual
theorem noDictLay : ∀ d : D, d.canLay0 = true → d.hasDict = false
  | .none, _ => rfl
  | .bool _, _ => rfl
  | .int _, _ => rfl
  | .str _, _ => rfl
  | .list ds, h => by
    rw [PyData.canLay0] at h
    rw [PyData.hasDict]
    exact noDictLays ds h
  | .tuple ds, h => by
    rw [PyData.canLay0] at h
    rw [PyData.hasDict]
    exact noDictLays ds h
  | .dict _, h => by rw [PyData.canLay0] at h; cases h
theorem noDictLays : ∀ ds : List D, PyData.canLayAll0 ds = true → PyData.hasDictAll ds = false
  | [], _ => rfl
  | d :: ds, h => by
    rw [PyData.canLayAll0, Bool.and_eq_true] at h
    rw [PyData.hasDictAll, noDictLay d h.1, noDictLays ds h.2]
    rfl
end
section
variable {X : Cx} {k : Nat}
theorem cm_repr (hr : Room k X.A) (hg : X.A.guards = some []) : CallM X (.builtin "repr") (rReprD X.K) oRepr := by
  refine ⟨fun pins s σ H xs us Q I r h => ?_, fun EX G H xs ws Φ R hw f Q q => ?_⟩
  · obtain ⟨d, a, rfl, dp, hl, hk, q⟩ := h
    obtain ⟨u, rfl, ru⟩ := vals1 r
    obtain ⟨as, rd⟩ := Dp.reads I d _ u dp ru
    cases ru
    unfold reprOk at hk
    simp only [Bool.and_eq_true, decide_eq_true_eq] at hk
    obtain ⟨⟨⟨⟨k1, k2⟩, k3⟩, k4⟩, _⟩ := hk
    have hun := hr.un
    have hfit : d.shown.length ≤ sizeLine := PyData.shown_fits (B := 13) (by decide) (by decide) (PyData.leavesShort_of_canLay0 13 d hl k4) (Nat.le_trans k3 (by decide))
    exact PySem.repr_of_reads' rd k1 (PyData.noDict_hsm (noDictLay d hl)) hg (by omega) (fun _ _ e => e) (fun h' u tk hk => ⟨.str d.shown, H, I.kept hk, ⟨u, rfl⟩, q⟩) hfit
  · unfold oRepr at f
    split at f
    · rename_i d
      obtain ⟨x, rfl, rx⟩ := rw1 hw
      have rx' : Dd X.K G x d := rx
      obtain ⟨a, rfl⟩ : ∃ a, x = .ref a := by
        have h2 := f.1
        unfold reprOk at h2
        simp only [Bool.and_eq_true] at h2
        cases rx' with
        | lst => exact ⟨_, rfl⟩
        | tup => exact ⟨_, rfl⟩
        | _ => simp at h2
      refine ⟨d, a, rfl, ?_, ddLay d _ rx', f.1, q _ G H (.rp d) R.refl rfl f.2⟩
      exact ddDp d _ (dpMono R.sub d _ rx')
    · exact f.elim
/-- the texts of repr compared -/
def oEqRp (neg : Bool) : F2 := fun p q Φ => match p, q with
  | .rp x, .rp y => Φ (.d (.bool (neg != decide (x.shown = y.shown))))
  | _, _ => False
theorem os_eqRp {K : PySem.W.Frag} : OpS K rEq (oEqRp false) := fun EX G H x y p q Φ R hp hq f Q k => by
  unfold oEqRp at f
  split at f
  · rename_i d e
    have hx : x = .str d.shown := hp
    have hy : y = .str e.shown := hq
    subst hx hy
    refine ⟨rfl, ?_⟩
    have e2 : decide (V.str d.shown = V.str e.shown) = (false != decide (d.shown = e.shown)) := by
      rw [dec_str]
      rw [Bool.eq_iff_iff]
      simp
    rw [e2]
    exact k _ G H (.d (.bool _)) R.refl (Dd.bl _) f
  · exact f.elim
theorem os_neRp {K : PySem.W.Frag} : OpS K rNe (oEqRp true) := fun EX G H x y p q Φ R hp hq f Q k => by
  unfold oEqRp at f
  split at f
  · rename_i d e
    have hx : x = .str d.shown := hp
    have hy : y = .str e.shown := hq
    subst hx hy
    refine ⟨rfl, ?_⟩
    have e2 : (!decide (V.str d.shown = V.str e.shown)) = (true != decide (d.shown = e.shown)) := by
      rw [dec_str]
      rw [Bool.eq_iff_iff]
      simp
    rw [e2]
    exact k _ G H (.d (.bool _)) R.refl (Dd.bl _) f
  · exact f.elim
theorem om_eqRp : OpM X (compareOp .Eq) rEq (oEqRp false) := ⟨op_eq, os_eqRp⟩
theorem om_neRp : OpM X (compareOp .NotEq) rNe (oEqRp true) := ⟨op_ne, os_neRp⟩
end
/-! ### isinstance -/
def tyD : D → String
  | .none => "NoneType"
  | .bool _ => "bool"
  | .int _ => "int"
  | .str _ => "str"
  | .list _ => "list"
  | .tuple _ => "tuple"
  | .dict _ => "dict"
inductive Ty where
  | list | tuple | str | int | bool | dict
def Ty.nm : Ty → String
  | .list => "list"
  | .tuple => "tuple"
  | .str => "str"
  | .int => "int"
  | .bool => "bool"
  | .dict => "dict"
def isD : D → Ty → Bool
  | .bool _, .bool => true
  | .bool _, .int => true
  | .int _, .int => true
  | .str _, .str => true
  | .list _, .list => true
  | .tuple _, .tuple => true
  | .dict _, .dict => true
  | _, _ => false
theorem isD_kit (d : D) (t : Ty) : kitB (tyD d) t.nm = some (isD d t) := by
  cases d <;> cases t <;> simp only [tyD, Ty.nm, isD] <;> decide +kernel
theorem tyX_dd {K : PySem.W.Frag} {EX : Ext} {G H : Hp} {v : V} {d : D} (R : Gd K EX G H) (h : Dd K G v d) : TyX K H v (.type (tyD d)) := by
  cases h with
  | non => exact .base .non
  | bl b => exact .base (.bl b)
  | int i => exact .base (.int i)
  | str x _ => exact .base (.str x)
  | lst hs _ => exact .base (.lst (R.sub _ _ hs))
  | tup hs _ => exact .base (.tup (R.sub _ _ hs))
section
variable {X : Cx} {e : Expr} {te : TE} {we : WE} {p p1 p2 p3 pos tpos : Pos} {k : Nat}
def wIsi (we : WE) (ts : List Ty) : WE := fun ρ Φ => we ρ fun r => match r with
  | .d x => Φ (.d (.bool (ts.any (isD x))))
  | _ => False
theorem me_isi (t : Ty) {T : Str} (he : ME X e te we) (hm : X.mg "isinstance" = none) (hm1 : X.mg T = none) (hT : bootBuiltins T = some (.type t.nm) := by decide +kernel) (hg : Gl X "isinstance" := by rfl) (hg1 : Gl X T := by rfl)
    (hs : starEach (e :: [.Name T p1]) X.env = (false, eval e X.env) :: starEach [.Name T p1] X.env := by rfl) (hs2 : starEach [.Name T p1] X.env = (false, eval (.Name T p1) X.env) :: starEach [] X.env := by rfl)
    (hpl : (backTo pos (starEach [.Name T p1] X.env)).any (·.1) = false := by rfl) (hn : T ≠ Str.ofString "__name__" := by decide) (hdb : (T == ("__debug__" : Str)) = false := by decide) :
    ME X (.Call (.Name "isinstance" p) [e, .Name T p1] [] pos) (tCB (rIsi X.K) (tCons te (tCons (tC (.ty t.nm)) tNil))) (wIsi we [t]) :=
  ⟨pe_callB call_isi hg hm boot_isinstance (pa_cons he.pe (pa_cons (pe_bltn hg1 hm1 hT rfl hn hdb) pa_nil hs2) hs) (he := hs) (hpl := hpl), fun EX G H σ ρ Φ R f Q q => he.so EX G H σ ρ _ R f _ fun v G1 H1 r S rv f1 => by
    split at f1
    · rename_i x
      refine ⟨v, .ty t.nm, .type (tyD x), .type t.nm, isD x t, rfl, .ty _, tyX_dd (R.toGd.step S) rv, kit_ty (isD_kit x t), q _ G1 H1 (.d (.bool _)) S (Dd.bl _) ?_⟩
      simpa using f1
    · exact f1.elim⟩
theorem kit_any {K : PySem.W.Frag} (d : D) : ∀ ts : List Ty, PySem.W.kitAny K (.type (tyD d)) (ts.map fun t => Value.type t.nm) = some (ts.any (isD d))
  | [] => kitAny_nil
  | t :: ts => by
    refine kitAny_cons (b := isD d t) (kit_ty (isD_kit d t)) (fun h => ?_) fun h => ?_
    · rw [List.any_cons, h, Bool.false_or]
      exact kit_any d ts
    · rw [List.any_cons, h, Bool.true_or]
theorem cls_all : ∀ ts : List Ty, Paired ClsV (ts.map fun t => V.ty t.nm) (ts.map fun t => Value.type t.nm)
  | [] => .nil
  | t :: ts => .cons (.ty _) (cls_all ts)
theorem so_isiT {K : PySem.W.Frag} (ts : List Ty) (hts : ts.length ≤ 1000) {tA : TA} (hA : ∀ σ H Q, tA σ H Q ↔ Q (ts.map fun t => V.ty t.nm) H) (h : SoE K te we) : SoE K (tCB (rIsiT K) (tCons te (tCons (tTup tA) tNil))) (wIsi we ts) := fun EX G H σ ρ Φ R f Q q =>
  h EX G H σ ρ _ R f _ fun v G1 H1 r S rv f1 => by
    split at f1
    · rename_i x
      refine (hA _ _ _).mpr ⟨by rw [List.length_map]; exact le_line hts, fun tp hp => ?_⟩
      have R1 := R.toGd.step S
      have S2 := R1.newOut (o := .tup (ts.map fun t => V.ty t.nm)) hp
      refine ⟨v, tp, _, .type (tyD x), ts.map fun t => Value.type t.nm, ts.any (isD x), rfl, upd_same, ?_, tyX_dd (R1.step S2) rv, kit_any x ts, q _ G1 _ (.d (.bool _)) (S.trans S2) (Dd.bl _) f1⟩
      exact cls_all ts
    · exact f1.elim
theorem me_isi2 (t1 t2 : Ty) {T1 T2 : Str} {es : List Expr} (hes : es = [.Name T1 p1, .Name T2 p2] := by rfl) (he : ME X e te we) (hm : X.mg "isinstance" = none) (hm1 : X.mg T1 = none) (hm2 : X.mg T2 = none) (hT1 : bootBuiltins T1 = some (.type t1.nm) := by decide +kernel) (hT2 : bootBuiltins T2 = some (.type t2.nm) := by decide +kernel)
    (hg : Gl X "isinstance" := by rfl) (hg1 : Gl X T1 := by rfl) (hg2 : Gl X T2 := by rfl)
    (hs : starEach (e :: [.Tuple es k tpos]) X.env = (false, eval e X.env) :: starEach [.Tuple es k tpos] X.env := by rfl) (hs2 : starEach [.Tuple es k tpos] X.env = (false, eval (.Tuple es k tpos) X.env) :: starEach [] X.env := by rfl)
    (ht : starEach es X.env = (false, eval (.Name T1 p1) X.env) :: starEach [.Name T2 p2] X.env := by rfl) (ht2 : starEach [.Name T2 p2] X.env = (false, eval (.Name T2 p2) X.env) :: starEach [] X.env := by rfl)
    (hpl : (backTo pos (starEach [.Tuple es k tpos] X.env)).any (·.1) = false := by rfl) (hn1 : T1 ≠ Str.ofString "__name__" := by decide) (hdb1 : (T1 == ("__debug__" : Str)) = false := by decide) (hn2 : T2 ≠ Str.ofString "__name__" := by decide) (hdb2 : (T2 == ("__debug__" : Str)) = false := by decide) :
    ME X (.Call (.Name "isinstance" p) [e, .Tuple es k tpos] [] pos) (tCB (rIsiT X.K) (tCons te (tCons (tTup (tCons (tC (.ty t1.nm)) (tCons (tC (.ty t2.nm)) tNil))) tNil))) (wIsi we [t1, t2]) := by
  subst hes
  exact ⟨pe_callB call_isiT hg hm boot_isinstance (pa_cons he.pe (pa_cons (pe_tup (pa_cons (pe_bltn hg1 hm1 hT1 rfl hn1 hdb1) (pa_cons (pe_bltn hg2 hm2 hT2 rfl hn2 hdb2) pa_nil ht2) ht)) pa_nil hs2) hs) (he := hs) (hpl := hpl),
    so_isiT [t1, t2] (by simp) (fun _ _ _ => Iff.rfl) he.so⟩
theorem me_isi3 (t1 t2 t3 : Ty) {T1 T2 T3 : Str} {es : List Expr} (hes : es = [.Name T1 p1, .Name T2 p2, .Name T3 p3] := by rfl) (he : ME X e te we) (hm : X.mg "isinstance" = none) (hm1 : X.mg T1 = none) (hm2 : X.mg T2 = none) (hm3 : X.mg T3 = none) (hT1 : bootBuiltins T1 = some (.type t1.nm) := by decide +kernel) (hT2 : bootBuiltins T2 = some (.type t2.nm) := by decide +kernel) (hT3 : bootBuiltins T3 = some (.type t3.nm) := by decide +kernel)
    (hg : Gl X "isinstance" := by rfl) (hg1 : Gl X T1 := by rfl) (hg2 : Gl X T2 := by rfl) (hg3 : Gl X T3 := by rfl)
    (hs : starEach (e :: [.Tuple es k tpos]) X.env = (false, eval e X.env) :: starEach [.Tuple es k tpos] X.env := by rfl) (hs2 : starEach [.Tuple es k tpos] X.env = (false, eval (.Tuple es k tpos) X.env) :: starEach [] X.env := by rfl)
    (ht : starEach es X.env = (false, eval (.Name T1 p1) X.env) :: starEach [.Name T2 p2, .Name T3 p3] X.env := by rfl) (ht2 : starEach [.Name T2 p2, .Name T3 p3] X.env = (false, eval (.Name T2 p2) X.env) :: starEach [.Name T3 p3] X.env := by rfl) (ht3 : starEach [.Name T3 p3] X.env = (false, eval (.Name T3 p3) X.env) :: starEach [] X.env := by rfl)
    (hpl : (backTo pos (starEach [.Tuple es k tpos] X.env)).any (·.1) = false := by rfl) (hn1 : T1 ≠ Str.ofString "__name__" := by decide) (hdb1 : (T1 == ("__debug__" : Str)) = false := by decide) (hn2 : T2 ≠ Str.ofString "__name__" := by decide) (hdb2 : (T2 == ("__debug__" : Str)) = false := by decide)
    (hn3 : T3 ≠ Str.ofString "__name__" := by decide) (hdb3 : (T3 == ("__debug__" : Str)) = false := by decide) :
    ME X (.Call (.Name "isinstance" p) [e, .Tuple es k tpos] [] pos) (tCB (rIsiT X.K) (tCons te (tCons (tTup (tCons (tC (.ty t1.nm)) (tCons (tC (.ty t2.nm)) (tCons (tC (.ty t3.nm)) tNil)))) tNil))) (wIsi we [t1, t2, t3]) := by
  subst hes
  exact ⟨pe_callB call_isiT hg hm boot_isinstance (pa_cons he.pe (pa_cons (pe_tup (pa_cons (pe_bltn hg1 hm1 hT1 rfl hn1 hdb1) (pa_cons (pe_bltn hg2 hm2 hT2 rfl hn2 hdb2) (pa_cons (pe_bltn hg3 hm3 hT3 rfl hn3 hdb3) pa_nil ht3) ht2) ht)) pa_nil hs2) hs) (he := hs) (hpl := hpl),
    so_isiT [t1, t2, t3] (by simp) (fun _ _ _ => Iff.rfl) he.so⟩
end
/-! ### texts -/
def strsD : List D → Option (List Str)
  | [] => some []
  | .str x :: r => match strsD r with
    | some xs => some (x :: xs)
    | none => none
  | _ :: _ => none
theorem strsD_map : ∀ xs : List Str, strsD (xs.map PyData.str) = some xs
  | [] => rfl
  | x :: xs => by simp only [List.map_cons, strsD, strsD_map xs]
theorem strsD_eq : ∀ {ds : List D} {xs : List Str}, strsD ds = some xs → ds = xs.map PyData.str
  | [], xs, e => by
    cases e
    rfl
  | d :: ds, xs, e => by
    cases d with
    | str x =>
      unfold strsD at e
      split at e
      · rename_i xs' hx
        cases e
        rw [List.map_cons, strsD_eq hx]
      · cases e
    | _ => cases e
theorem strs_v {K : PySem.W.Frag} {G : Hp} : ∀ {xs : List Str} {vs : List V}, DdAll K G vs (xs.map PyData.str) → vs = xs.map V.str ∧ ∀ x ∈ xs, SOk x
  | [], _, h => by
    cases h
    exact ⟨rfl, fun _ h => by simp at h⟩
  | x :: xs, _, h => by
    cases h with
    | cons h1 h2 =>
      obtain ⟨e, q⟩ := strs_v h2
      subst e
      cases h1 with
      | str _ so =>
        refine ⟨rfl, fun y hy => ?_⟩
        rcases List.mem_cons.mp hy with rfl | z
        · exact so
        · exact q y z
theorem dd_strs {K : PySem.W.Frag} {G : Hp} : ∀ {xs : List Str}, (∀ x ∈ xs, SOk x) → DdAll K G (xs.map V.str) (xs.map PyData.str)
  | [], _ => .nil
  | x :: xs, h => .cons (.str x (h x List.mem_cons_self)) (dd_strs fun y hy => h y (List.mem_cons_of_mem _ hy))
/-- sep.join(..) of a list or tuple of texts, sep not long -/
theorem cps_join (y : Str) : ∀ xs : List Str, ∀ c ∈ (Str.join y xs).cps.toList, c ∈ y.cps.toList ∨ ∃ x ∈ xs, c ∈ x.cps.toList
  | [], c, h => by
    have : (Str.join y []).cps.toList = [] := rfl
    rw [this] at h
    cases h
  | [x], c, h => .inr ⟨x, List.mem_cons_self, h⟩
  | x :: z :: r, c, h => by
    have e : (Str.join y (x :: z :: r)).cps.toList = x.cps.toList ++ y.cps.toList ++ (Str.join y (z :: r)).cps.toList := by
      show ((x.cps ++ y.cps) ++ (Str.join y (z :: r)).cps).toList = _
      simp
    rw [e, List.mem_append, List.mem_append] at h
    rcases h with (h | h) | h
    · exact .inr ⟨x, List.mem_cons_self, h⟩
    · exact .inl h
    · rcases cps_join y (z :: r) c h with q | ⟨w, hw, q⟩
      · exact .inl q
      · exact .inr ⟨w, List.mem_cons_of_mem _ hw, q⟩
theorem len_join (y : Str) : ∀ xs : List Str, (Str.join y xs).length ≤ (xs.map (·.length)).sum + xs.length * y.length
  | [] => Nat.zero_le _
  | [x] => by
    show x.length ≤ _
    simp
  | x :: z :: r => by
    have e : (Str.join y (x :: z :: r)).length = x.length + y.length + (Str.join y (z :: r)).length := by
      show ((x.cps ++ y.cps) ++ (Str.join y (z :: r)).cps).size = _
      rw [Array.size_append, Array.size_append]
      rfl
    have ih := len_join y (z :: r)
    rw [e]
    simp only [List.map_cons, List.sum_cons, List.length_cons, Nat.add_mul] at ih ⊢
    omega
theorem sok_iff {x : Str} (h : ∀ c ∈ x.cps.toList, c < 0x110000) (l : x.length ≤ sizeLine) : SOk x := ⟨by
  unfold PyData.strOk
  rw [Array.all_eq_true_iff_forall_mem]
  intro c hc
  exact decide_eq_true (h c (Array.mem_toList_iff.mpr hc)), l⟩
theorem SOk.cp {x : Str} (h : SOk x) : ∀ c ∈ x.cps.toList, c < 0x110000 := fun c hc => by
  have h1 := h.ok
  unfold PyData.strOk at h1
  have := (Array.all_eq_true_iff_forall_mem.mp h1) c (Array.mem_toList_iff.mp hc)
  simpa using this
def strsOfW : W → Option (List Str)
  | .d (.list ds) => strsD ds
  | .d (.tuple ds) => strsD ds
  | _ => none
section
variable {X : Cx} {e : Expr} {te : TE} {we : WE} {p apos cpos : Pos} {k : Nat} {y : Str}
def rJoin (K : PySem.W.Frag) : V → List V → Hp → VK → Prop := fun x xs H Q => ∃ a p, ∃ ys : List Str, x = .str a ∧ xs = [.ref p] ∧ (SqL K H p (ys.map V.str) ∨ SqT K H p (ys.map V.str)) ∧ (ys.map (·.length)).sum + ys.length * a.length ≤ 16777216 ∧ Q (.str (Txt.join a ys)) H
def wJoin (y : Str) (we : WE) : WE := fun ρ Φ => we ρ fun r => match strsOfW r with
  | some xs => (xs.map (·.length)).sum + xs.length * y.length ≤ 16000000 ∧ Φ (.d (.str (Str.join y xs)))
  | none => False
theorem me_join (he : ME X e te we) (hy1 : PyData.strOk y = true := by decide +kernel) (hbase : attributeBase (.Constant (.str y) k p) "join" X.env (eval (.Constant (.str y) k p) X.env) = eval (.Constant (.str y) k p) X.env := by rfl)
    (hfew : ((backTo cpos (starEach [e] X.env)).all (fun x => !x.1) && (backToKw cpos (keywordEach [] X.env)).all (fun x => x.1.isSome) && decide (([e] : List Expr).length + ([] : List Keyword).length + (if ([] : List Keyword).isEmpty then 0 else 1) < 30)) = true := by rfl)
    (hline : (apos.endLine == cpos.line) = true := by rfl) (hst : starEach [e] X.env = (false, eval e X.env) :: starEach [] X.env := by rfl) (hplain : (backTo cpos (starEach [] X.env)).any (·.1) = false := by rfl) :
    ME X (.Call (.Attribute (.Constant (.str y) k p) "join" apos) [e] [] cpos) (tBM X.K "str" (rJoin X.K) (tC (.str y)) (tCons te tNil)) (wJoin y we) :=
  ⟨pe_bm PySem.F.plainAttrs_str PySem.F.slot_str_join PySem.F.type_str_join mt_join pe_str (pa_cons he.pe pa_nil hst) hbase hfew hline hst hplain, fun EX G H σ ρ Φ R f Q q => by
    refine ⟨rfl, he.so EX G H σ ρ _ R f _ fun v G1 H1 r S rv f1 => ?_⟩
    have R1 := R.toGd.step S
    have fin : ∀ (xs : List Str) (a : Addr), (SqL X.K H1 a (xs.map V.str) ∨ SqT X.K H1 a (xs.map V.str)) → (∀ x ∈ xs, SOk x) → ((xs.map (·.length)).sum + xs.length * y.length ≤ 16000000 ∧ Φ (.d (.str (Str.join y xs)))) → rJoin X.K (.str y) [.ref a] H1 Q := fun xs a hs so f2 => by
      refine ⟨y, a, xs, rfl, rfl, hs, by omega, ?_⟩
      rw [TL.join_eq]
      refine q _ G1 H1 (.d (.str _)) S (Dd.str _ (sok_iff (fun c hc => ?_) ?_)) f2.2
      · rcases cps_join y xs c hc with z | ⟨x, hx, z⟩
        · have := (Array.all_eq_true_iff_forall_mem.mp (show y.cps.all (· < 0x110000) = true from hy1)) c (Array.mem_toList_iff.mp z)
          simpa using this
        · exact (so x hx).cp c z
      · have := len_join y xs
        rw [sizeLine_eq]
        omega
    split at f1
    · rename_i xs hx
      unfold strsOfW at hx
      split at hx
      · obtain ⟨a, vs, rfl, g, dd⟩ := rwLst rv
        rw [strsD_eq hx] at dd
        obtain ⟨rfl, so⟩ := strs_v dd
        exact fin xs a (.inl (.inl (.inl (R1.sub _ _ g)))) so f1
      · obtain ⟨a, vs, rfl, g, dd⟩ := rwTup rv
        rw [strsD_eq hx] at dd
        obtain ⟨rfl, so⟩ := strs_v dd
        exact fin xs a (.inr (.inl (.inl (R1.sub _ _ g)))) so f1
      · cases hx
    · exact f1.elim⟩
/-! ### sorted -/
/-- sorted(texts), sorted(a dict with texts as keys) -/
def keysS : List (Key × D) → Option (List Str)
  | [] => some []
  | (.inr x, _) :: r => match keysS r with
    | some xs => some (x :: xs)
    | none => none
  | _ :: _ => none
theorem keysS_eq : ∀ {kvs : List (Key × D)} {xs : List Str}, keysS kvs = some xs → kvs.map (·.1) = xs.map Sum.inr
  | [], xs, e => by cases e; rfl
  | (.inr x, d) :: r, xs, e => by
    unfold keysS at e
    split at e
    · rename_i xs' hx
      cases e
      rw [List.map_cons, List.map_cons, keysS_eq hx]
    · cases e
  | (.inl x, d) :: r, xs, e => by cases e
def oSortS : List W → (List D → Prop) → Prop := fun ws Φ => match ws with
  | [.d (.list ds)] => (match strsD ds with
    | some xs => xs.length < 64 ∧ ∀ ys : List Str, ys.Perm xs → sortedS ys = true → Φ (ys.map PyData.str)
    | none => False)
  | [.dk kvs] => (match keysS kvs with
    | some xs => xs.length < 64 ∧ (∀ x ∈ xs, PyData.strOk x = true ∧ x.length ≤ 1000000) ∧ ∀ ys : List Str, ys.Perm xs → sortedS ys = true → Φ (ys.map PyData.str)
    | none => False)
  | _ => False
def rSortSD (K : PySem.W.Frag) : List V → Hp → VK → Prop := fun xs H Q => rSortedS K xs H Q ∨ ∃ (a : Addr) (kvs : List (Key × V)) (ks : List Str), xs = [.ref a] ∧ Rd H a (.dK kvs) ∧ kvs.map (·.1) = ks.map Sum.inr ∧ ks.length < 64 ∧
    ∀ ys p, ys.Perm ks → sortedS ys = true → H p = none → Q (.ref p) (upd H p (.lst (ys.map V.str)))
theorem kv_keys {K : PySem.W.Frag} {G : Hp} {κ : Type} : ∀ {vs : List (κ × V)} {kvs : List (κ × D)}, KvD K G vs kvs → vs.map (·.1) = kvs.map (·.1)
  | _, _, .nil => rfl
  | _, _, .cons h t => by rw [List.map_cons, List.map_cons, h.1, kv_keys t]
theorem cm_sortedS (hc : X.calm = true := by rfl) : CallLM X (.builtin "sorted") (rSortSD X.K) oSortS := by
  refine ⟨fun pins s σ H xs us Q I r h => ?_, fun EX G H xs ws Φ R hw f Q q => ?_⟩
  · rcases h with h | h
    · exact cr_sortedS pins s σ H xs us Q I r h
    · exact call_sortedD hc pins s σ H xs us Q I r h
  · unfold oSortS at f
    split at f
    · split at f
      · rename_i ys hy
        obtain ⟨x, rfl, rx⟩ := rw1 hw
        obtain ⟨a, vs, rfl, g, dd⟩ := rwLst rx
        rw [strsD_eq hy] at dd
        obtain ⟨rfl, so⟩ := strs_v dd
        refine .inl ⟨a, ys, rfl, .inl (.inl (R.sub _ _ g)), f.1, fun zs p hp hs hn => ?_⟩
        exact q p _ _ _ _ (R.newOut hn) hn (R.free hn) (R.notBox hn) upd_same (dd_strs fun x hx => so x (hp.mem_iff.mp hx)) (f.2 zs hp hs)
      · exact f.elim
    · split at f
      · rename_i ys hy
        obtain ⟨x, rfl, rx⟩ := rw1 hw
        obtain ⟨a, vs, rfl, g, kv⟩ := rx
        obtain ⟨f1, f2, f3⟩ := f
        refine .inr ⟨a, vs, ys, rfl, .inl (R.sub _ _ g), (kv_keys kv).trans (keysS_eq hy), f1, fun zs p hp hs hn => ?_⟩
        exact q p _ _ _ _ (R.newOut hn) hn (R.free hn) (R.notBox hn) upd_same (dd_strs fun x hx => ⟨(f2 x (hp.mem_iff.mp hx)).1, mil_le (f2 x (hp.mem_iff.mp hx)).2⟩) (f3 zs hp hs)
      · exact f.elim
    · exact f.elim
end
end Pd
end

section
set_option Elab.async false
set_option linter.all false
set_option maxRecDepth 100000
set_option autoImplicit false
set_option maxHeartbeats 1000000
/-! Pd, dicts of lists -/
namespace Pd
open PySem PySem.Spec PyProof.Rows L2
variable {ξ : XI}
abbrev KL := List (Key × (Addr × List D))
def findK (kvs : KL) (k : Key) : Option (Addr × List D) := (kvs.find? fun kv => decide (kv.1 = k)).map (·.2)
def putE (kvs : KL) (k : Key) (p : Addr) : KL := match findK kvs k with
  | some _ => kvs
  | none => kvs ++ [(k, (p, []))]
def appE : KL → Key → D → KL
  | [], _, _ => []
  | (k', b, ds) :: r, k, x => if k' = k then (k', b, ds ++ [x]) :: r else (k', b, ds) :: appE r k x
theorem val_kl (k : Key) : ∀ kvs : KL, valV (kvs.map fun p => (p.1, V.ref p.2.1)) k = (findK kvs k).map fun p => V.ref p.1
  | [] => rfl
  | (k', b, ds) :: r => by
    have ih := val_kl k r
    unfold findK valV at ih ⊢
    rw [List.map_cons, List.find?_cons, List.find?_cons]
    by_cases h : k' = k
    · simp [h]
    · simp only [h, decide_false]
      exact ih
theorem put_kl {k : Key} {z : V} : ∀ {kvs : KL}, findK kvs k = none → putK (kvs.map fun p => (p.1, V.ref p.2.1)) k z = (kvs.map fun p => (p.1, V.ref p.2.1)) ++ [(k, z)] := by
  intro kvs h
  have na : ((kvs.map fun p => (p.1, V.ref p.2.1)).any fun kv => decide (kv.1 = k)) = false := by
    rw [List.any_eq_false]
    intro x hx
    obtain ⟨y, hy, rfl⟩ := List.mem_map.mp hx
    unfold findK at h
    rw [Option.map_eq_none_iff, List.find?_eq_none] at h
    exact h y hy
  unfold putK
  rw [na]
  simp
theorem appE_keys (k : Key) (x : D) : ∀ kvs : KL, ((appE kvs k x).map fun p => (p.1, V.ref p.2.1)) = kvs.map fun p => (p.1, V.ref p.2.1)
  | [] => rfl
  | (k', b, ds) :: r => by
    unfold appE
    split
    · rfl
    · rw [List.map_cons, List.map_cons, appE_keys k x r]
theorem appE_subs (k : Key) (x : D) : ∀ kvs : KL, ((appE kvs k x).map fun p => p.2.1) = kvs.map fun p => p.2.1
  | [] => rfl
  | (k', b, ds) :: r => by
    unfold appE
    split
    · rfl
    · rw [List.map_cons, List.map_cons, appE_subs k x r]
theorem appE_at {K : PySem.W.Frag} {G H : Hp} {k : Key} {x : D} {v : V} {b : Addr} {vs : List V} {ds0 : List D} (hv : Dd K G v x) (hb : H b = some (.lst vs)) : ∀ {kvs : KL}, findK kvs k = some (b, ds0) → (kvs.map (·.2.1)).Nodup → DdAll K G vs ds0 → SubAt K G H (kvs.map (·.2)) → SubAt K G (upd H b (.lst (vs ++ [v]))) ((appE kvs k x).map (·.2))
  | [], e, _, _, _ => by cases e
  | (k', b', ds) :: r, e, nd, dd, hs => by
    have hs0 : ∀ p ∈ r.map (·.2), ∃ vs, H p.1 = some (.lst vs) ∧ DdAll K G vs p.2 := fun p hp => hs p (by rw [List.map_cons]; exact List.mem_cons_of_mem _ hp)
    rw [List.map_cons, List.nodup_cons] at nd
    unfold appE
    by_cases h : k' = k
    · rw [if_pos h]
      unfold findK at e
      rw [List.find?_cons_of_pos (by simpa using h)] at e
      cases e
      intro p hp
      rw [List.map_cons] at hp
      rcases List.mem_cons.mp hp with rfl | hp
      · exact ⟨vs ++ [v], upd_same, dpApp dd (dpOne hv)⟩
      · obtain ⟨us, q1, q2⟩ := hs0 p hp
        refine ⟨us, ?_, q2⟩
        have : p.1 ≠ b := fun z => nd.1 (by
          obtain ⟨y, hy, rfl⟩ := List.mem_map.mp hp
          rw [← z]
          exact List.mem_map.mpr ⟨y, hy, rfl⟩)
        rw [upd_ne this]
        exact q1
    · rw [if_neg h]
      unfold findK at e
      rw [List.find?_cons_of_neg (by simpa using h)] at e
      have ih := appE_at (k := k) hv hb (kvs := r) e nd.2 dd hs0
      intro p hp
      rw [List.map_cons] at hp
      rcases List.mem_cons.mp hp with rfl | hp
      · obtain ⟨us, q1, q2⟩ := hs (b', ds) (by rw [List.map_cons]; exact List.mem_cons_self)
        refine ⟨us, ?_, q2⟩
        have : b' ≠ b := fun z => nd.1 (by
          rw [z]
          cases q : r.find? (fun kv => decide (kv.1 = k)) with
          | none => rw [q] at e; cases e
          | some y =>
            rw [q] at e
            have e' : y.2 = (b, ds0) := Option.some.inj e
            exact List.mem_map.mpr ⟨y, List.mem_of_find?_eq_some q, by rw [e']⟩)
        show upd H b _ b' = _
        rw [upd_ne this]
        exact q1
      · exact ih p hp
theorem findK_mem {kvs : KL} {k : Key} {p : Addr × List D} (h : findK kvs k = some p) : p ∈ kvs.map (·.2) := by
  unfold findK at h
  cases q : kvs.find? (fun kv => decide (kv.1 = k)) with
  | none => rw [q] at h; cases h
  | some y =>
    rw [q] at h
    have e : y.2 = p := Option.some.inj h
    exact List.mem_map.mpr ⟨y, List.mem_of_find?_eq_some q, e⟩
/-- x.setdefault(k, []).append(v) -/
def wSdApp (i : Nat) (wk wv : WE) : WS := fun ρ P => match ρ[i]? with
  | some (.mu (.kl kvs)) => kvs.length ≤ 1000000 ∧ wk ρ fun q => match q with
    | .d kd => (match keyD kd with
      | some k => ∀ p : Addr, (∀ b ds, findK (putE kvs k p) k = some (b, ds) → ds.length ≤ 1000000) ∧ wv (ρ.set i (.mu (.kl (putE kvs k p)))) fun r => (match r with
        | .d x => P.nx (ρ.set i (.mu (.kl (appE (putE kvs k p) k x))))
        | _ => False)
      | none => False)
    | _ => False
  | _ => False
theorem findK_app {kvs : KL} {k : Key} {p : Addr × List D} (h : findK kvs k = none) : findK (kvs ++ [(k, p)]) k = some p := by
  unfold findK at h ⊢
  rw [Option.map_eq_none_iff] at h
  rw [List.find?_append, h]
  simp
theorem so_sdApp {K : PySem.W.Frag} {i : Nat} {tk tv : TE} {wk wv : WE} (hk : SoE K tk wk) (hv : SoE K tv wv) : SoS K ξ (tDrop (tBM K "list" rAppend (tDSetd (tVar i) tk (tLst tNil)) (tCons tv tNil))) (wSdApp i wk wv) := fun EX G H σ ρ P R f D E => by
  unfold wSdApp at f
  split at f
  · rename_i kvs e
    obtain ⟨a, es, hg, hm⟩ := R.own e
    refine ⟨.ref a, es, a, rfl, .inl ⟨_, .inl hm.1⟩, hk EX G H σ ρ _ R f.2 _ fun y G1 H1 q S1 rq f1 => ?_⟩
    have R1 := R.step S1
    split at f1
    · rename_i kd
      split at f1
      · rename_i k hkd
        have ey : y = kV k := keyD_v rq hkd
        subst ey
        refine ⟨Nat.zero_le _, fun p hp => ?_⟩
        have S2 := R1.toGd.newOut (o := .lst []) hp
        have R2 := R1.step S2
        obtain ⟨a2, es2, hg2, hm2⟩ := R2.own e
        rw [es] at es2
        cases es2
        obtain ⟨h2a, h2s, h2n⟩ := hm2
        obtain ⟨fb, f2⟩ := f1 p
        have S12 := S1.trans S2
        have hpa : p ≠ a := fun z => by
          obtain ⟨_, _, u, hu, _⟩ := R1.ownAt (b := p) ⟨i, .kl kvs, a, e, es, by rw [z]; exact List.mem_cons_self⟩
          rw [hp] at hu; cases hu
        have hpn : p ∉ kvs.map (·.2.1) := fun z => by
          obtain ⟨_, _, u, hu, _⟩ := R1.ownAt (b := p) ⟨i, .kl kvs, a, e, es, List.mem_cons_of_mem _ z⟩
          rw [hp] at hu; cases hu
        -- the end: the list at b gets the value
        have fin : ∀ (kvs' : KL) (b : Addr) (ds0 : List PyData) (H2 : Hp) (ρ2 : Rh), findK kvs' k = some (b, ds0) → ds0.length ≤ 1000000 → ρ2 = ρ.set i (.mu (.kl kvs')) → Rel K EX G1 H2 σ ρ2 → EndsOk K ξ EX (Own σ ρ2) G1 H2 P D →
            (wv ρ2 fun r => match r with | .d x => P.nx (ρ.set i (.mu (.kl (appE kvs' k x)))) | _ => False) →
            (tyV K "list" (.ref b) H2 ∧ tv σ H2 fun z H4 => rAppend (.ref b) [z] H4 fun _ H5 => D.nx σ H5) := fun kvs' b ds0 H2 ρ2 hf hl eρ R3 E3 f3 => by
          have hil : i < ρ.length := (List.getElem?_eq_some_iff.mp e).1
          have e2 : ρ2[i]? = some (.mu (.kl kvs')) := by rw [eρ, List.getElem?_set_self hil]
          obtain ⟨a3, es3, hg3, hm3⟩ := R3.own e2
          rw [es] at es3
          cases es3
          obtain ⟨vs, hb, _⟩ := hm3.2.1 _ (findK_mem hf)
          refine ⟨.inl ⟨rfl, vs, .inl (.inl hb)⟩, hv EX G1 H2 σ ρ2 _ R3 f3 _ fun z G4 H4 r S4 rz f4 => ?_⟩
          have R4 := R3.step S4
          obtain ⟨a4, es4, hg4, hm4⟩ := R4.own e2
          rw [es] at es4
          cases es4
          obtain ⟨vs4, hb4, dd4⟩ := hm4.2.1 _ (findK_mem hf)
          split at f4
          · rename_i x
            have nd := (List.nodup_cons.mp hm4.2.2)
            have hbm : b ∈ kvs'.map (·.2.1) := by
              obtain ⟨y, hy, z⟩ := List.mem_map.mp (findK_mem hf)
              exact List.mem_map.mpr ⟨y, hy, by rw [z]⟩
            have hba : a ≠ b := fun z => nd.1 (z ▸ hbm)
            refine ⟨b, vs4, z, rfl, rfl, hb4, by rw [dpLen dd4]; exact mil_lt hl, ?_⟩
            obtain ⟨R5, S5, o5⟩ := R4.mut (m' := .kl (appE kvs' k x)) (H' := upd H4 b (.lst (vs4 ++ [z]))) e2 es (fun c o nc q => by
              have : c ≠ b := fun z => nc (by rw [z]; exact List.mem_cons_of_mem _ hbm)
              rw [upd_ne this]; exact q) (fun c hc => .inl (by
              rcases List.mem_cons.mp hc with rfl | hc
              · exact List.mem_cons_self
              · refine List.mem_cons_of_mem _ ?_
                have hc' : c ∈ (appE kvs' k x).map (·.2.1) := hc
                rw [appE_subs] at hc'
                exact hc')) ⟨by
              rw [upd_ne hba, appE_keys]
              exact hm4.1, appE_at rz hb4 hf nd.2 dd4 hm4.2.1, by
              have : (appE kvs' k x).map (·.2.1) = kvs'.map (·.2.1) := appE_subs k x kvs'
              rw [this]
              exact hm4.2.2⟩
            have eq : ρ2.set i (.mu (.kl (appE kvs' k x))) = ρ.set i (.mu (.kl (appE kvs' k x))) := by rw [eρ, List.set_set]
            rw [eq] at R5 o5
            exact (E3.step R3.toGd S4).nx EX G4 _ σ _ S5 R5 o5 f4
          · exact f4.elim
        have hlen : (kvs.map fun p => (p.1, V.ref p.2.1)).length < sizeLine := by
          rw [List.length_map]
          exact mil_lt f.1
        refine ⟨_, k, h2a, rfl, hlen, fun v hval => ?_, fun hval => ?_⟩
        · rw [val_kl] at hval
          cases q : findK kvs k with
          | none => rw [q] at hval; cases hval
          | some pr =>
            obtain ⟨b, ds0⟩ := pr
            rw [q] at hval
            have hv' : V.ref b = v := Option.some.inj hval
            subst hv'
            have ep : putE kvs k p = kvs := by unfold putE; rw [q]
            rw [ep] at f2 fb
            have eρ : ρ.set i (.mu (.kl kvs)) = ρ := by
              refine List.ext_getElem? fun j => ?_
              by_cases hj : j = i
              · subst hj
                rw [List.getElem?_set_self (List.getElem?_eq_some_iff.mp e).1, e]
              · rw [List.getElem?_set_ne (Ne.symm hj)]
            rw [eρ] at f2
            exact fin kvs b ds0 _ ρ q (fb b ds0 q) eρ.symm R2 (E.step R.toGd S12) f2
        · rw [val_kl] at hval
          have q : findK kvs k = none := by
            cases q : findK kvs k with
            | none => rfl
            | some pr => rw [q] at hval; cases hval
          have ep : putE kvs k p = kvs ++ [(k, (p, []))] := by unfold putE; rw [q]
          rw [ep] at f2 fb
          rw [put_kl q]
          obtain ⟨a1, es1, hg1, hm1⟩ := R1.own e
          rw [es] at es1
          cases es1
          obtain ⟨R3, S3, o3⟩ := R1.mut (m' := .kl (kvs ++ [(k, (p, []))])) (H' := upd (upd H1 p (.lst [])) a (.dK ((kvs.map fun p => (p.1, V.ref p.2.1)) ++ [(k, .ref p)]))) e es (fun c o nc q => by
            have n1 : c ≠ a := fun z => nc (by rw [z]; exact List.mem_cons_self)
            rw [upd_ne n1, upd_ne (ne_of_none q hp)]
            exact q) (fun c hc => by
            rcases List.mem_cons.mp hc with rfl | hc
            · exact .inl List.mem_cons_self
            · have hc' : c ∈ (kvs ++ [(k, (p, ([] : List PyData)))]).map (·.2.1) := hc
              rw [List.map_append, List.mem_append] at hc'
              rcases hc' with z | z
              · exact .inl (List.mem_cons_of_mem _ z)
              · rw [List.map_singleton, List.mem_singleton] at z
                exact .inr (by rw [z]; exact hp)) ⟨by
            rw [upd_same, List.map_append]
            rfl, fun x hx => by
            rw [List.map_append, List.mem_append] at hx
            rcases hx with hx | hx
            · obtain ⟨us, q1, q2⟩ := hm1.2.1 x hx
              have nx : x.1 ≠ a := fun z => (List.nodup_cons.mp hm1.2.2).1 (by
                obtain ⟨y, hy, rfl⟩ := List.mem_map.mp hx
                rw [← z]
                exact List.mem_map.mpr ⟨y, hy, rfl⟩)
              exact ⟨us, by rw [upd_ne nx, upd_ne (ne_of_none q1 hp)]; exact q1, q2⟩
            · rw [List.map_singleton, List.mem_singleton] at hx
              subst hx
              exact ⟨[], by rw [upd_ne hpa, upd_same], .nil⟩, by
            rw [List.map_append, List.map_singleton]
            show (a :: (kvs.map (·.2.1) ++ [p])).Nodup
            rw [List.nodup_cons]
            refine ⟨fun z => ?_, ?_⟩
            · rw [List.mem_append, List.mem_singleton] at z
              rcases z with z | z
              · exact (List.nodup_cons.mp hm1.2.2).1 z
              · exact hpa z.symm
            · rw [List.nodup_append]
              refine ⟨(List.nodup_cons.mp hm1.2.2).2, by simp, fun x hx y hy z => ?_⟩
              rw [List.mem_singleton] at hy
              subst hy
              subst z
              exact hpn hx⟩
          exact fin (kvs ++ [(k, (p, []))]) p [] _ _ (findK_app q) (by simp) rfl R3 ((E.step R.toGd S1).from S3 R3.toGd o3) f2
      · exact f1.elim
    · exact f1.elim
  · exact f.elim
section
variable {X : Cx} {ke ve : Expr} {tk tv : TE} {wk wv : WE} {pos a1 a2 c1 c2 np lp : Pos} {x : Str}
theorem ms_sdApp (i : Nat) (hk : ME X ke tk wk) (hv : ME X ve tv wv) (hN : X.N[i]? = some x := by rfl) (hvs : Vis X.env.scope x := by first | exact Or.inl rfl | exact Or.inr (Or.inl rfl) | exact Or.inr (Or.inr rfl)) (hd : (x == ("__debug__" : Str)) = false := by decide)
    (hcd : (x == ("__classdict__" : Str)) = false := by decide) (m : M2 X (.Name x np) "setdefault" a1 ke (.List [] lp) c1 := by exact ⟨rfl, rfl, rfl, rfl⟩)
    (hs : swapsWith (.Call (.Attribute (.Call (.Attribute (.Name x np) "setdefault" a1) [ke, .List [] lp] [] c1) "append" a2) [ve] [] c2) none pos.line X.env = pure false := by rfl)
    (hbase : attributeBase (.Call (.Attribute (.Name x np) "setdefault" a1) [ke, .List [] lp] [] c1) "append" X.env (eval (.Call (.Attribute (.Name x np) "setdefault" a1) [ke, .List [] lp] [] c1) X.env) = eval (.Call (.Attribute (.Name x np) "setdefault" a1) [ke, .List [] lp] [] c1) X.env := by rfl)
    (hfew : ((backTo c2 (starEach [ve] X.env)).all (fun x => !x.1) && (backToKw c2 (keywordEach [] X.env)).all (fun x => x.1.isSome) && decide (([ve] : List Expr).length + ([] : List Keyword).length + (if ([] : List Keyword).isEmpty then 0 else 1) < 30)) = true := by rfl)
    (hline : (a2.endLine == c2.line) = true := by rfl) (hst : starEach [ve] X.env = (false, eval ve X.env) :: starEach [] X.env := by rfl) (hplain : (backTo c2 (starEach [] X.env)).any (·.1) = false := by rfl) :
    MS X ξ (.Expr (.Call (.Attribute (.Call (.Attribute (.Name x np) "setdefault" a1) [ke, .List [] lp] [] c1) "append" a2) [ve] [] c2) pos) (tDrop (tBM X.K "list" rAppend (tDSetd (tVar i) tk (tLst tNil)) (tCons tv tNil))) (wSdApp i wk wv) :=
  ⟨ps_expr (pe_bm PySem.F.plainAttrs_list PySem.F.slot_list_append PySem.F.type_list_append mt_append (pe_dsetd (pv i hN hvs hd hcd) hk.pe (pe_lst pa_nil) m) (pa_cons hv.pe pa_nil hst) hbase hfew hline hst hplain) hs, so_sdApp hk.so hv.so⟩
end
end Pd
end

section
set_option Elab.async false
set_option linter.all false
set_option maxRecDepth 100000
set_option autoImplicit false
set_option maxHeartbeats 1000000
/-! Pd, the rest: signs, tuples of names, comprehensions to names; how loops are shown -/
namespace Pd
open PySem PySem.Spec PyProof.Rows L2
variable {ξ : XI}
section
variable {X : Cx} {e tg iter elt : Expr} {es : List Expr} {te : TE} {we : WE} {tA : TA} {pos pt pt2 py spos : Pos}
def wNeg (we : WE) : WE := fun ρ Φ => we ρ fun r => match r with
  | .d (.int i) => Φ (.d (.int (-i)))
  | _ => False
theorem me_neg (h : ME X e te we) : ME X (.UnaryOp .USub e pos) (tUn (rU fun i => .int (-i)) te) (wNeg we) := ⟨pe_un un_neg h.pe, fun EX G H σ ρ Φ R f Q q => h.so EX G H σ ρ _ R f _ fun v G1 H1 r S rv f1 => by
  split at f1
  · rename_i i
    exact ⟨i, rwInt rv, q _ G1 H1 (.d (.int _)) S (Dd.int _) f1⟩
  · exact f1.elim⟩
/-- the targets are names -/
def gNames : List Nat → TGs
  | [] => gNil
  | i :: is => gCons (gName i) (gNames is)
theorem gNames_put : ∀ {is : List Nat} {vs : List V} {σ : L2.St} {H : Hp} {Q : L2.St → Hp → Prop}, vs.length = is.length → Q (putS σ is vs) H → gNames is vs σ H Q
  | [], [], σ, H, Q, _, q => ⟨rfl, by simpa [putS] using q⟩
  | i :: is, v :: vs, σ, H, Q, hl, q => ⟨v, vs, rfl, gNames_put (is := is) (vs := vs) (σ := σ.set i (some v)) (by simpa using hl) (by simpa [putS] using q)⟩
  | [], _ :: _, _, _, _, hl, _ => by simp at hl
  | _ :: _, [], _, _, _, hl, _ => by simp at hl
theorem ms_parT {ts : List Expr} {kt k2 n : Nat} {is : List Nat} {wA : WAo} (ha : MAo X es tA wA) (hg : PGs X ts (gNames is)) (hlen : is.length = n := by rfl) (hc : X.calm = true := by rfl) (hn : (assignEach ts X.env).length = n := by rfl) (hst : (assignEach ts X.env).findIdx? (·.1) = none := by rfl)
    (hs : swapsWithSole [.Tuple ts kt pt] (.Tuple es k2 pt2) pos.line X.env = pure false := by rfl) (hw : swappedStores [.Tuple ts kt pt] (.Tuple es k2 pt2) X.env = pure none := by rfl)
    (h1 : (assignEach [.Tuple ts kt pt] X.env).map (·.2) = [assign (.Tuple ts kt pt) X.env] := by rfl) (hsm : n ≤ 1000 := by decide) :
    MS X ξ (.Assign [.Tuple ts kt pt] (.Tuple es k2 pt2) pos) (tAsg (tTup tA) (gTup X.K n (gNames is))) (wPar is wA) := ⟨ps_asg (pe_tup ha.pa) (pg_tup hc hg hn hst) hs hw h1, fun EX G H σ ρ P R f D E => by
  refine ha.so EX G H σ ρ _ R f _ fun vs G1 H1 ss S1 A f1 => ?_
  obtain ⟨hl, hu, f2⟩ := f1
  have hl2 : vs.length = n := (A.len.trans hl).trans hlen
  refine ⟨by rw [hl2]; exact le_line hsm, fun p hp => ⟨p, vs, rfl, .inl (.inl upd_same), hl2, gNames_put (A.len.trans hl) ?_⟩⟩
  have R1 := R.step S1
  have S2 := R1.toGd.newOut (o := .tup vs) hp
  have A2 : SlsAt X.K EX G1 H (upd H1 p (.tup vs)) vs ss := ⟨A.len, fun i s e => (A.at_ i s e).step S2, A.fr, A.df⟩
  obtain ⟨R2, o2⟩ := Rel.puts (O := Own σ ρ) (is := is) (R1.step S2) A2 (noUn_iff hu) (fun b o z => by
    obtain ⟨_, _, u, hu, _⟩ := R.ownAt (b := b) o
    rw [z] at hu; cases hu) (fun b o => .inl o) (fun b o j m a e1 e2 hb => by
    obtain ⟨_, _, u, hu, _⟩ := R.ownAt (b := b) o
    rw [A.fr j m a b e1 e2 hb] at hu; cases hu)
  exact E.nx EX G1 _ _ _ (S1.trans S2).s R2 o2 f2⟩
/-! readings by what they say alone -/
def canE (K : PySem.W.Frag) (w : WE) : TE := fun σ H Q => ∃ (EX : Ext) (G : Hp) (ρ : Rh) (Φ : W → Prop), Rel K EX G H σ ρ ∧ w ρ Φ ∧ ∀ v G' H' r, Step EX G H G' H' → Rw K EX G' v r → Φ r → Q v H'
def canT (K : PySem.W.Frag) (w : WT) : TT := fun σ H Q => ∃ (EX : Ext) (G : Hp) (ρ : Rh) (Φ : Bool → Prop), Rel K EX G H σ ρ ∧ w ρ Φ ∧ ∀ b G' H', Step EX G H G' H' → Φ b → Q b H'
def canG (K : PySem.W.Frag) (w : WG) (sl : List Nat) : TG := fun v σ H Q => ∃ (EX : Ext) (G : Hp) (ρ : Rh) (r : W) (Φ : Rh → Prop), Rel K EX G H σ ρ ∧ Rw K EX G v r ∧ w r ρ Φ ∧ ∀ σ' ρ', Rel K EX G H σ' ρ' → Kept sl σ σ' ρ ρ' → Φ ρ' → Q σ' H
theorem me_can {Y : Cx} {e : Expr} {t : TE} {w : WE} (h : ME Y e t w) : ME Y e (canE Y.K w) w := ⟨⟨fun pins s σ H Q I ⟨EX, G, ρ, Φ, R, f, q⟩ => h.pe.run pins s σ H Q I (h.so EX G H σ ρ Φ R f Q q)⟩, fun EX G H σ ρ Φ R f Q q => ⟨EX, G, ρ, Φ, R, f, q⟩⟩
theorem mts_can {Y : Cx} {es : List Expr} {t : TT} {w : WT} (h : MTs Y es t w) : MTs Y es (canT Y.K w) w := ⟨⟨fun pins s σ H Q I ⟨EX, G, ρ, Φ, R, f, q⟩ => h.pt.run pins s σ H Q I (h.so EX G H σ ρ Φ R f Q q)⟩, fun EX G H σ ρ Φ R f Q q => ⟨EX, G, ρ, Φ, R, f, q⟩⟩
theorem mg_can {Y : Cx} {tg : Expr} {g : TG} {w : WG} {sl : List Nat} (h : MG Y tg g w sl) : MG Y tg (canG Y.K w sl) w sl := ⟨⟨fun pins s σ H v u Q I rv ⟨EX, G, ρ, r, Φ, R, rr, f, q⟩ => h.pg.run pins s σ H v u Q I rv (h.so EX G H σ ρ v r Φ R rr f Q q)⟩, fun EX G H σ ρ v r Φ R rr f Q q => ⟨EX, G, ρ, r, Φ, R, rr, f, q⟩⟩
theorem ml_lcX {ifs : List Expr} {scope : Scope} {wi : TI} {ui : WD} {ug : WG} {ut : WT} {ue : WE} {sl : List Nat} (own : List (Str × Nat)) (hN : X.N.Nodup) (hi : MI X tg iter wi ui) (ok : BlkOk X.N X.env.scope scope own)
    (hg : ∀ (s : Shared) (H : Hp) (C : Addr) (cl : List (Str × Addr)) (fp : List Addr), ∃ g, MG (X.blk s H scope (compEnvC scope cl C X.env) fp) tg g ug sl)
    (ht : ∀ (s : Shared) (H : Hp) (C : Addr) (cl : List (Str × Addr)) (fp : List Addr), ∃ tt, MTs (X.blk s H scope (compEnvC scope cl C X.env) fp) ifs tt ut)
    (he : ∀ (s : Shared) (H : Hp) (C : Addr) (cl : List (Str × Addr)) (fp : List Addr), ∃ te, ME (X.blk s H scope (compEnvC scope cl C X.env) fp) elt te ue)
    (hsl : ∀ j ∈ sl, j ∈ own.map (·.2) := by decide) (hc : X.calm = true := by rfl) (hs : ∀ x, foldedSetIterable iter X.env x = pure x := by intro _; rfl) :
    ML X (.ListComp elt [⟨tg, iter, ifs, 0⟩] scope pos) (tLc wi (canG X.K ug sl) (canT X.K ut) (canE X.K ue) (own.map (·.2))) (wLc ui ug ut ue (own.map (·.2))) :=
  ml_lc own hN hi ok (fun s H C cl fp => let ⟨_, h⟩ := hg s H C cl fp; mg_can h) (fun s H C cl fp => let ⟨_, h⟩ := ht s H C cl fp; mts_can h) (fun s H C cl fp => let ⟨_, h⟩ := he s H C cl fp; me_can h) hsl hc hs
/-- y = [..] -/
theorem ms_lcX {wf : WS} (i : Nat) {y : Str} {ifs : List Expr} {scope : Scope} {wi : TI} {ui : WD} {ug : WG} {ut : WT} {ue : WE} {sl : List Nat} (own : List (Str × Nat)) (hN : X.N.Nodup) (hi : MI X tg iter wi ui) (ok : BlkOk X.N X.env.scope scope own)
    (hg : ∀ (s : Shared) (H : Hp) (C : Addr) (cl : List (Str × Addr)) (fp : List Addr), ∃ g, MG (X.blk s H scope (compEnvC scope cl C X.env) fp) tg g ug sl)
    (ht : ∀ (s : Shared) (H : Hp) (C : Addr) (cl : List (Str × Addr)) (fp : List Addr), ∃ tt, MTs (X.blk s H scope (compEnvC scope cl C X.env) fp) ifs tt ut)
    (he : ∀ (s : Shared) (H : Hp) (C : Addr) (cl : List (Str × Addr)) (fp : List Addr), ∃ te, ME (X.blk s H scope (compEnvC scope cl C X.env) fp) elt te ue)
    (hf : SoS X.K ξ (tAsg (tLc wi (canG X.K ug sl) (canT X.K ut) (canE X.K ue) (own.map (·.2))) (gName i)) wf)
    (hy : X.N[i]? = some y) (hyl : X.env.scope.names.lookup y = some .local) (hsw : swapsWith (.ListComp elt [⟨tg, iter, ifs, 0⟩] scope pos) (some (.Name y py)) spos.line X.env = pure true)
    (hc : X.calm = true) (hs : ∀ x, foldedSetIterable iter X.env x = pure x) :
    MS X ξ (.Assign [.Name y py] (.ListComp elt [⟨tg, iter, ifs, 0⟩] scope pos) spos) (tAsg (tLc wi (canG X.K ug sl) (canT X.K ut) (canE X.K ue) (own.map (·.2))) (gName i)) wf :=
  ⟨ps_setLc hc hN hy hyl hsw hi.pi ok (fun s H C cl fp => let ⟨_, h⟩ := hg s H C cl fp; (mg_can h).pg) (fun s H C cl fp => let ⟨_, h⟩ := ht s H C cl fp; (mts_can h).pt) (fun s H C cl fp => let ⟨_, h⟩ := he s H C cl fp; (me_can h).pe) hs, hf⟩
theorem so_lcX {K : PySem.W.Frag} {wi : TI} {ui : WD} {ug : WG} {ut : WT} {ue : WE} {sl vs : List Nat} (hi : SoI K wi ui) (hsl : ∀ j ∈ sl, j ∈ vs) : SoL K (tLc wi (canG K ug sl) (canT K ut) (canE K ue) vs) (wLc ui ug ut ue vs) :=
  so_lc hi (fun EX G H σ ρ v r Φ R rr f Q q => ⟨EX, G, ρ, r, Φ, R, rr, f, q⟩) (fun EX G H σ ρ Φ R f Q q => ⟨EX, G, ρ, Φ, R, f, q⟩) (fun EX G H σ ρ Φ R f Q q => ⟨EX, G, ρ, Φ, R, f, q⟩) hsl
theorem ms_setLc (i : Nat) {y : Str} {ifs : List Expr} {scope : Scope} {wi : TI} {ui : WD} {ug : WG} {ut : WT} {ue : WE} {sl : List Nat} (own : List (Str × Nat)) (hN : X.N.Nodup) (hi : MI X tg iter wi ui) (ok : BlkOk X.N X.env.scope scope own)
    (hg : ∀ (s : Shared) (H : Hp) (C : Addr) (cl : List (Str × Addr)) (fp : List Addr), ∃ g, MG (X.blk s H scope (compEnvC scope cl C X.env) fp) tg g ug sl)
    (ht : ∀ (s : Shared) (H : Hp) (C : Addr) (cl : List (Str × Addr)) (fp : List Addr), ∃ tt, MTs (X.blk s H scope (compEnvC scope cl C X.env) fp) ifs tt ut)
    (he : ∀ (s : Shared) (H : Hp) (C : Addr) (cl : List (Str × Addr)) (fp : List Addr), ∃ te, ME (X.blk s H scope (compEnvC scope cl C X.env) fp) elt te ue)
    (hy : X.N[i]? = some y := by rfl) (hyl : X.env.scope.names.lookup y = some .local := by rfl) (hsw : swapsWith (.ListComp elt [⟨tg, iter, ifs, 0⟩] scope pos) (some (.Name y py)) spos.line X.env = pure true := by exact sw_true rfl rfl rfl (by decide +kernel))
    (hsl : ∀ j ∈ sl, j ∈ own.map (·.2) := by decide) (hc : X.calm = true := by rfl) (hs : ∀ x, foldedSetIterable iter X.env x = pure x := by intro _; rfl) :
    MS X ξ (.Assign [.Name y py] (.ListComp elt [⟨tg, iter, ifs, 0⟩] scope pos) spos) (tAsg (tLc wi (canG X.K ug sl) (canT X.K ut) (canE X.K ue) (own.map (·.2))) (gName i)) (wSet i (wFz (wLc ui ug ut ue (own.map (·.2))))) :=
  ms_lcX i own hN hi ok hg ht he (so_set (so_fz (so_lcX hi.so hsl))) hy hyl hsw hc hs
theorem ms_setOLc (i : Nat) {y : Str} {ifs : List Expr} {scope : Scope} {wi : TI} {ui : WD} {ug : WG} {ut : WT} {ue : WE} {sl : List Nat} (own : List (Str × Nat)) (hN : X.N.Nodup) (hi : MI X tg iter wi ui) (ok : BlkOk X.N X.env.scope scope own)
    (hg : ∀ (s : Shared) (H : Hp) (C : Addr) (cl : List (Str × Addr)) (fp : List Addr), ∃ g, MG (X.blk s H scope (compEnvC scope cl C X.env) fp) tg g ug sl)
    (ht : ∀ (s : Shared) (H : Hp) (C : Addr) (cl : List (Str × Addr)) (fp : List Addr), ∃ tt, MTs (X.blk s H scope (compEnvC scope cl C X.env) fp) ifs tt ut)
    (he : ∀ (s : Shared) (H : Hp) (C : Addr) (cl : List (Str × Addr)) (fp : List Addr), ∃ te, ME (X.blk s H scope (compEnvC scope cl C X.env) fp) elt te ue)
    (hy : X.N[i]? = some y := by rfl) (hyl : X.env.scope.names.lookup y = some .local := by rfl) (hsw : swapsWith (.ListComp elt [⟨tg, iter, ifs, 0⟩] scope pos) (some (.Name y py)) spos.line X.env = pure true := by exact sw_true rfl rfl rfl (by decide +kernel))
    (hsl : ∀ j ∈ sl, j ∈ own.map (·.2) := by decide) (hc : X.calm = true := by rfl) (hs : ∀ x, foldedSetIterable iter X.env x = pure x := by intro _; rfl) :
    MS X ξ (.Assign [.Name y py] (.ListComp elt [⟨tg, iter, ifs, 0⟩] scope pos) spos) (tAsg (tLc wi (canG X.K ug sl) (canT X.K ut) (canE X.K ue) (own.map (·.2))) (gName i)) (wSetO i (wLc ui ug ut ue (own.map (·.2)))) :=
  ms_lcX i own hN hi ok hg ht he (so_setO (so_lcX hi.so hsl)) hy hyl hsw hc hs
end
def wBrk : WS := fun ρ P => P.bk ρ
def wCnt : WS := fun ρ P => P.ct ρ
def oGe : F2 := fun p q Φ => match p, q with
  | .d (.int i), .d (.int j) => Φ (.d (.bool (decide (j ≤ i))))
  | _, _ => False
/-! ### loops, shown -/
theorem forW_inv {wg : WG} {wb : WS} {P : Ps} (I : Nat → Rh → Prop) : ∀ {ds : List D} {ρ : Rh} (n : Nat), I n ρ →
    (∀ i d ρ' (C : Rh → Prop), ds[i]? = some d → I (n + i) ρ' → (∀ ρ'', I (n + i + 1) ρ'' → C ρ'') → wg (.d d) ρ' fun ρ1 => wb ρ1 ⟨C, P.rt, P.nx, C, P.ex⟩) → (∀ ρ', I (n + ds.length) ρ' → P.nx ρ') → forW wg wb ds ρ P
  | [], ρ, n, h0, _, he => he ρ h0
  | d :: ds, ρ, n, h0, hs, he => hs 0 d ρ (fun ρ'' => forW wg wb ds ρ'' P) rfl h0 fun ρ'' h => forW_inv I (n + 1) h (fun i d' ρ' C e hi hc => hs (i + 1) d' ρ' C (by simpa using e) (by rw [show n + (i + 1) = n + 1 + i by omega]; exact hi) (by rw [show n + (i + 1) + 1 = n + 1 + i + 1 by omega]; exact hc)) fun ρ' h => he ρ' (by rw [List.length_cons, show n + (ds.length + 1) = n + 1 + ds.length by omega]; exact h)
/-- by what is left -/
theorem forW_ind {wg : WG} {wb : WS} {P : Ps} (I : List D → Rh → Prop) {ds : List D} {ρ : Rh} (h0 : I ds ρ)
    (hs : ∀ d r ρ' (C : Rh → Prop), I (d :: r) ρ' → (∀ ρ'', I r ρ'' → C ρ'') → wg (.d d) ρ' fun ρ1 => wb ρ1 ⟨C, P.rt, P.nx, C, P.ex⟩) (he : ∀ ρ', I [] ρ' → P.nx ρ') : forW wg wb ds ρ P := by
  induction ds generalizing ρ with
  | nil => exact he ρ h0
  | cons d ds ih => exact hs d ds ρ _ h0 fun ρ'' h => ih h
/-- a comprehension whose items are computed -/
theorem compW_map {wg : WG} {we : WE} {ρ : Rh} {Φ : List D → Prop} (f : D → D) : ∀ {ds acc : List D}, (∀ d ∈ ds, ∀ T : W → Prop, T (.d (f d)) → wg (.d d) ρ fun ρ' => we ρ' T) → Φ (acc ++ ds.map f) → compW wg wYes we ds ρ acc Φ
  | [], acc, _, h => by simpa [compW] using h
  | d :: ds, acc, hs, h => by
    unfold compW
    refine hs d List.mem_cons_self (fun r => _) ?_
    exact compW_map f (fun x hx => hs x (List.mem_cons_of_mem _ hx)) (by simpa using h)
/-- .. and picked by a test -/
theorem compW_fm {wg : WG} {wt : WT} {we : WE} {ρ : Rh} {Φ : List D → Prop} (p : D → Bool) (f : D → D) : ∀ {ds acc : List D},
    (∀ d ∈ ds, ∀ (T : W → Prop) (S : Prop), (p d = true → T (.d (f d))) → (p d = false → S) → wg (.d d) ρ fun ρ' => wt ρ' fun k => if k = true then we ρ' T else S) → Φ (acc ++ (ds.filter p).map f) → compW wg wt we ds ρ acc Φ
  | [], acc, _, h => by simpa [compW] using h
  | d :: ds, acc, hs, h => by
    unfold compW
    have hr : ∀ x ∈ ds, _ := fun x hx => hs x (List.mem_cons_of_mem _ hx)
    refine hs d List.mem_cons_self (fun r => _) _ (fun e => ?_) fun e => ?_
    · exact compW_fm p f hr (by rw [List.filter_cons_of_pos e] at h; simpa using h)
    · exact compW_fm p f hr (by rw [List.filter_cons_of_neg (by simp [e])] at h; simpa using h)
/-- by an invariant of the items so far -/
theorem compW_inv {wg : WG} {wt : WT} {we : WE} {ρ : Rh} {Φ : List D → Prop} (I : Nat → List D → Prop) : ∀ {ds acc : List D} (n : Nat), I n acc →
    (∀ i d acc' (C : List D → Prop), ds[i]? = some d → I (n + i) acc' → (∀ acc'', I (n + i + 1) acc'' → C acc'') → wg (.d d) ρ fun ρ' => wt ρ' fun k => if k = true then we ρ' fun r => (match r with
      | .d x => C (acc' ++ [x])
      | _ => False) else C acc') → (∀ acc', I (n + ds.length) acc' → Φ acc') → compW wg wt we ds ρ acc Φ
  | [], acc, n, h0, _, he => he acc h0
  | d :: ds, acc, n, h0, hs, he => hs 0 d acc (fun acc'' => compW wg wt we ds ρ acc'' Φ) rfl h0 fun acc'' h => compW_inv I (n + 1) h (fun i d' acc' C e hi hc => hs (i + 1) d' acc' C (by simpa using e) (by rw [show n + (i + 1) = n + 1 + i by omega]; exact hi) (by rw [show n + (i + 1) + 1 = n + 1 + i + 1 by omega]; exact hc)) fun acc' h => he acc' (by rw [List.length_cons, show n + (ds.length + 1) = n + 1 + ds.length by omega]; exact h)
end Pd
end

section
set_option Elab.async false
set_option linter.all false
set_option maxRecDepth 100000
set_option autoImplicit false
/-! Pd, what the readings say, piece by piece -/
namespace Pd
open PySem PySem.Spec PyProof.Rows L2
section
variable {Φ : W → Prop} {Ψ : List D → Prop} {i j : Int} {x y : Str} {ds es : List D} {a : Addr} {ns : List Int} {b : Bool} {d e : D} {C : Int → Int → Prop} {g : Int → Int → Int} {h : Int → Int → Bool} {k : List Nat → List Nat → Bool} {neg : Bool} {lo hi : Option Int} {ws : List W} {kvs : List (Key × D)}
theorem ev_addI : oAdd (.d (.int i)) (.d (.int j)) Φ = Φ (.d (.int (i + j))) := rfl
theorem ev_addS : oAdd (.d (.str x)) (.d (.str y)) Φ = (x.length + y.length ≤ sizeLine ∧ Φ (.d (.str (x ++ y)))) := rfl
theorem ev_addT : oAdd (.d (.tuple ds)) (.d (.tuple es)) Φ = (ds.length + es.length ≤ sizeLine ∧ Φ (.d (.tuple (ds ++ es)))) := rfl
theorem ev_addL : oAdd (.d (.list ds)) (.d (.list es)) Φ = (ds.length + es.length ≤ sizeLine ∧ Φ (.d (.list (ds ++ es)))) := rfl
theorem ev_mulI : oMul (.d (.int i)) (.d (.int j)) Φ = (CMul i j ∧ Φ (.d (.int (i * j)))) := rfl
theorem ev_I : oI C g (.d (.int i)) (.d (.int j)) Φ = (C i j ∧ Φ (.d (.int (g i j)))) := rfl
theorem ev_I0 : oI0 g (.d (.int i)) (.d (.int j)) Φ = Φ (.d (.int (g i j))) := rfl
theorem ev_ltI : oLt h k (.d (.int i)) (.d (.int j)) Φ = Φ (.d (.bool (h i j))) := rfl
theorem ev_ltS : oLt h k (.d (.str x)) (.d (.str y)) Φ = Φ (.d (.bool (k x.cps.toList y.cps.toList))) := rfl
theorem ev_ge : oGe (.d (.int i)) (.d (.int j)) Φ = Φ (.d (.bool (decide (j ≤ i)))) := rfl
theorem ev_eq : oEq neg (.d d) (.d e) Φ = (min d.depth e.depth ≤ 64 ∧ Φ (.d (.bool (neg != PyData.eqv d e)))) := rfl
theorem ev_eqI : oEq neg (.d (.int i)) (.d (.int j)) Φ = Φ (.d (.bool (neg != (i == j)))) := by
  rw [ev_eq]
  simp [PyData.depth, PyData.eqv]
theorem ev_eqS : oEq neg (.d (.str x)) (.d (.str y)) Φ = Φ (.d (.bool (neg != (x == y)))) := by
  rw [ev_eq]
  simp [PyData.depth, PyData.eqv]
theorem ev_eqB {c : Bool} : oEq neg (.d (.bool b)) (.d (.bool c)) Φ = Φ (.d (.bool (neg != (b == c)))) := by
  rw [ev_eq]
  simp [PyData.depth, PyData.eqv]
theorem ev_p0 : oIx (.p a) (.d (.int 0)) Φ = ∀ n : Int, Φ (.d (.int n)) := by
  simp [oIx]
theorem ev_p1 : oIx (.p a) (.d (.int 1)) Φ = ∀ n : Int, Φ (.d (.int n)) := by
  simp [oIx]
theorem ev_p2 : oIx (.p a) (.d (.int 2)) Φ = ∀ n : Int, Φ (.d (.int n)) := by
  simp [oIx]
theorem ev_lenL : oLen [.d (.list ds)] Φ = Φ (.d (.int ds.length)) := rfl
theorem ev_lenT : oLen [.d (.tuple ds)] Φ = Φ (.d (.int ds.length)) := rfl
theorem ev_lenS : oLen [.d (.str x)] Φ = Φ (.d (.int x.length)) := rfl
theorem ev_lenQ : oLen [.sq a ns] Φ = Φ (.d (.int ns.length)) := rfl
theorem ev_lenK : oLen [.dk kvs] Φ = Φ (.d (.int kvs.length)) := rfl
theorem ev_tupL : oTuple [.d (.list ds)] Φ = Φ (.d (.tuple ds)) := rfl
theorem ev_tupT : oTuple [.d (.tuple ds)] Φ = Φ (.d (.tuple ds)) := rfl
theorem ev_lisL : oList [.d (.list ds)] Ψ = Ψ ds := rfl
theorem ev_lisT : oList [.d (.tuple ds)] Ψ = Ψ ds := rfl
theorem ev_intI : oInt [.d (.int i)] Φ = Φ (.d (.int i)) := rfl
theorem ev_intB : oInt [.d (.bool b)] Φ = Φ (.d (.int (if b then 1 else 0))) := rfl
theorem ev_max2 : oMax2 [.d (.int i), .d (.int j)] Φ = Φ (.d (.int (if j > i then j else i))) := rfl
theorem ev_min2 : oMin2 [.d (.int i), .d (.int j)] Φ = Φ (.d (.int (if j < i then j else i))) := rfl
theorem ev_repr : oRepr [.d d] Φ = (reprOk d = true ∧ Φ (.rp d)) := rfl
theorem ev_eqRp : oEqRp neg (.rp d) (.rp e) Φ = Φ (.d (.bool (neg != decide (d.shown = e.shown)))) := rfl
theorem ev_slL : oSl (.d (.list ds)) lo hi Φ = Φ (.d (.list (cutD ds lo hi))) := rfl
theorem ev_slT : oSl (.d (.tuple ds)) lo hi Φ = Φ (.d (.tuple (cutD ds lo hi))) := rfl
theorem ev_slS : oSl (.d (.str x)) lo hi Φ = Φ (.d (.str (cutS x lo hi))) := rfl
theorem ev_seqL : seqD (.d (.list ds)) Ψ = Ψ ds := rfl
theorem ev_seqT : seqD (.d (.tuple ds)) Ψ = Ψ ds := rfl
theorem ev_seqS : seqD (.d (.str x)) Ψ = Ψ (signs x) := rfl
theorem ev_inL : oIn neg (.d d) (.d (.list ds)) Φ = (min (PyData.depthAll ds) d.depth ≤ 63 ∧ Φ (.d (.bool (neg != ds.any fun y => PyData.eqv y d)))) := by
  cases d <;> rfl
theorem ev_inT : oIn neg (.d d) (.d (.tuple ds)) Φ = (min (PyData.depthAll ds) d.depth ≤ 63 ∧ Φ (.d (.bool (neg != ds.any fun y => PyData.eqv y d)))) := by
  cases d <;> rfl
theorem ev_isB {c : Bool} : oIs neg (.d (.bool b)) (.d (.bool c)) Φ = Φ (.d (.bool (neg != decide (b = c)))) := rfl
theorem ev_dO : dOnly Φ (.d d) = Φ (.d d) := rfl
theorem ev_dat0 {Ψ : List D → Prop} : datsW [] Ψ = Ψ [] := by simp [datsW, dats]
theorem ev_dat1 : datsW [.d d] Ψ = Ψ [d] := by simp [datsW, dats]
theorem ev_dat2 : datsW [.d d, .d e] Ψ = Ψ [d, e] := by simp [datsW, dats]
theorem ev_dat3 {d3 : D} : datsW [.d d, .d e, .d d3] Ψ = Ψ [d, e, d3] := by simp [datsW, dats]
theorem ev_dat4 {d3 d4 : D} : datsW [.d d, .d e, .d d3, .d d4] Ψ = Ψ [d, e, d3, d4] := by simp [datsW, dats]
theorem ev_dat5 {d3 d4 d5 : D} : datsW [.d d, .d e, .d d3, .d d4, .d d5] Ψ = Ψ [d, e, d3, d4, d5] := by simp [datsW, dats]
theorem ev_dat8 {d3 d4 d5 d6 d7 d8 : D} : datsW [.d d, .d e, .d d3, .d d4, .d d5, .d d6, .d d7, .d d8] Ψ = Ψ [d, e, d3, d4, d5, d6, d7, d8] := by simp [datsW, dats]
theorem ev_dats {l : List D} (h : dats ws = some l) (hl : l.length ≤ 1000) (q : Ψ l) : datsW ws Ψ := by
  unfold datsW
  rw [h]
  exact ⟨hl, q⟩
end
theorem cmulL {i j : Int} (h1 : -(2 ^ 64) < i) (h2 : i < 2 ^ 64) : CMul i j := .inl ⟨h1, h2⟩
theorem cmulR {i j : Int} (h1 : -(2 ^ 64) < j) (h2 : j < 2 ^ 64) : CMul i j := .inr ⟨h1, h2⟩
theorem atI_some {α : Type} {xs : List α} {i : Int} (h0 : 0 ≤ i) (h1 : i < xs.length) : ∃ x, xs[i.toNat]? = some x ∧ atI xs i = some x := by
  obtain ⟨n, rfl⟩ := Int.eq_ofNat_of_zero_le h0
  have hn : n < xs.length := by omega
  exact ⟨xs[n], by simp [hn], atI_nat (List.getElem?_eq_getElem hn)⟩
theorem r_ixs {s : Addr} {ns : List Int} {i : Int} {Φ : W → Prop} (h0 : 0 ≤ i) (h1 : i < ns.length) (q : ∀ n : Int, Φ (.d (.int n))) : oIx (.sq s ns) (.d (.int i)) Φ := by
  obtain ⟨x, e, e2⟩ := atI_some h0 h1
  unfold oIx
  simp only [e2]
  exact q x
theorem r_ixl {ds : List PyData} {i : Int} {Φ : W → Prop} (h0 : 0 ≤ i) (h1 : i < ds.length) (q : ∀ d, ds[i.toNat]? = some d → Φ (.d d)) : oIx (.d (.list ds)) (.d (.int i)) Φ := by
  obtain ⟨x, e, e2⟩ := atI_some h0 h1
  unfold oIx
  simp only [e2]
  exact q x e
theorem r_ixt {ds : List PyData} {i : Int} {Φ : W → Prop} (h0 : 0 ≤ i) (h1 : i < ds.length) (q : ∀ d, ds[i.toNat]? = some d → Φ (.d d)) : oIx (.d (.tuple ds)) (.d (.int i)) Φ := by
  obtain ⟨x, e, e2⟩ := atI_some h0 h1
  unfold oIx
  simp only [e2]
  exact q x e
theorem r_ixc {x : Str} {i : Int} {Φ : W → Prop} (h0 : 0 ≤ i) (h1 : i < x.length) (q : ∀ c ∈ x.cps.toList, Φ (.d (.str ⟨#[c]⟩))) : oIx (.d (.str x)) (.d (.int i)) Φ := by
  obtain ⟨c, e, e2⟩ := atI_some (xs := x.cps.toList) h0 (by rw [Array.length_toList]; exact h1)
  unfold oIx
  simp only [e2]
  exact q c (List.mem_of_getElem? e)
/-- [a, b][int(c)] -/
theorem r_two {a b : PyData} {c : Bool} {Φ : W → Prop} (h : ∀ d, d = a ∨ d = b → Φ (.d d)) : oIx (.d (.list [a, b])) (.d (.int (if c then 1 else 0))) Φ := by
  cases c with
  | true => exact r_ixl (by decide) (by simp) fun d e => h d (.inr (by simpa using e.symm))
  | false => exact r_ixl (by decide) (by simp) fun d e => h d (.inl (by simpa using e.symm))
theorem r_twoP {a b : PyData} {c : Prop} [Decidable c] {Φ : W → Prop} (h : ∀ d, d = a ∨ d = b → Φ (.d d)) : oIx (.d (.list [a, b])) (.d (.int (if c then 1 else 0))) Φ := by
  by_cases hc : c
  · rw [if_pos hc]
    exact r_ixl (by decide) (by simp) fun d e => h d (.inr (by simpa using e.symm))
  · rw [if_neg hc]
    exact r_ixl (by decide) (by simp) fun d e => h d (.inl (by simpa using e.symm))
/-- the last one -/
theorem r_last {ds : List PyData} {Φ : W → Prop} (h1 : ds ≠ []) (q : ∀ d ∈ ds, ds.getLast? = some d → Φ (.d d)) : oIx (.d (.list ds)) (.d (.int (-1))) Φ := by
  have e : atI ds (-1) = some (ds.getLast h1) := by
    have := atI_last ds.dropLast (ds.getLast h1)
    rwa [List.dropLast_concat_getLast] at this
  unfold oIx
  simp only [e]
  exact q _ (List.getLast_mem h1) (List.getLast?_eq_getLast h1)
end Pd
end

section
set_option Elab.async false
set_option linter.all false
set_option maxRecDepth 100000
set_option autoImplicit false
set_option maxHeartbeats 1000000
/-! Pd, more on own lists: items, pop, del, extend, two items at once -/
namespace Pd
open PySem PySem.Spec PyProof.Rows L2
variable {ξ : XI}
section
variable {X : Cx} {e k k1 k2 a b : Expr} {te tk tk1 tk2 : TE} {we wk wk1 wk2 : WE} {tA : TA} {wA : WA} {pos apos cpos tpos np np2 t1 t2 pt pt2 : Pos} {x y : Str}
/-- x[k] of an own list -/
def wIxO (i : Nat) (wk : WE) : WE := fun ρ Φ => wk ρ fun q => match q with
  | .d (.int z) => (match ρ[i]? with
    | some (.mu (.l ds)) => oIx (.d (.list ds)) (.d (.int z)) Φ
    | some (.sh r) => oIx r (.d (.int z)) Φ
    | _ => False)
  | _ => False
theorem so_ixO {K : PySem.W.Frag} {i : Nat} (hk : SoE K tk wk) (hi : ∀ ρ Φ, wIxO i wk ρ Φ → True) : SoE K (tOp (rIx K) (tVar i) tk) (fun ρ Φ => ((∃ ds, ρ[i]? = some (.mu (.l ds))) ∨ ∃ r, ρ[i]? = some (.sh r)) ∧ wIxO i wk ρ Φ) := fun EX G H σ ρ Φ R f Q q => by
  obtain ⟨hh, f⟩ := f
  rcases hh with ⟨ds, e⟩ | ⟨r, e⟩
  · obtain ⟨a, es, hg, vs, hH, dd⟩ := R.own e
    refine ⟨.ref a, es, hk EX G H σ ρ _ R f _ fun u G1 H1 r S ru f1 => ?_⟩
    have R1 := R.step S
    split at f1
    · rename_i z
      rw [e] at f1
      simp only at f1
      replace f1 : match atI ds z with | some d => Φ (.d d) | none => False := f1
      split at f1
      · rename_i d hd
        obtain ⟨a', es', hg', vs', hH', dd'⟩ := R1.own e
        rw [es] at es'
        cases es'
        obtain ⟨v, e2, dv⟩ := atI_dd dd' hd
        exact .inl ⟨a, vs', z, v, rfl, rwInt ru, .inl (.inl hH'), e2, q v G1 H1 (.d d) S dv f1⟩
      · exact f1.elim
    · exact f1.elim
  · obtain ⟨v, es, rv⟩ := R.var e
    refine ⟨v, es, hk EX G H σ ρ _ R f _ fun u G1 H1 r' S ru f1 => ?_⟩
    have R1 := R.step S
    split at f1
    · rename_i z
      rw [e] at f1
      simp only at f1
      exact os_ix EX G1 H1 v u r (.d (.int z)) Φ R1.toGd (rwMono S.gg (fun _ _ h => h) rv) ru f1 Q fun w G2 H2 c S2 rc fc => q w G2 H2 c (S.trans S2) rc fc
    · exact f1.elim
def wIxOx (i : Nat) (wk : WE) : WE := fun ρ Φ => ((∃ ds, ρ[i]? = some (.mu (.l ds))) ∨ ∃ r, ρ[i]? = some (.sh r)) ∧ wIxO i wk ρ Φ
theorem me_ixO (i : Nat) (hk : ME X k tk wk) (hN : X.N[i]? = some x := by rfl) (hv : Vis X.env.scope x := by first | exact Or.inl rfl | exact Or.inr (Or.inl rfl) | exact Or.inr (Or.inr rfl)) (hd : (x == ("__debug__" : Str)) = false := by decide)
    (hcd : (x == ("__classdict__" : Str)) = false := by decide) (hs : PlainIx k := by exact fun _ _ => rfl) : ME X (.Subscript (.Name x np) k pos) (tOp (rIx X.K) (tVar i) tk) (wIxOx i wk) := ⟨pe_ix ix_seq (pv i hN hv hd hcd) hk.pe hs, so_ixO hk.so fun _ _ _ => trivial⟩
/-- y = x.pop() -/
def wPopSet (i j : Nat) : WS := fun ρ P => match ρ[i]? with
  | some (.mu (.l ds)) => (match ds[ds.length - 1]? with
    | some d => P.nx ((ρ.set i (.mu (.l ds.dropLast))).set j (.sh (.d d)))
    | none => False)
  | _ => False
theorem dpDropLast {K : PySem.W.Frag} {G : Hp} {vs : List V} {ds : List D} (h : DdAll K G vs ds) : DdAll K G vs.dropLast ds.dropLast := by
  rw [List.dropLast_eq_take, List.dropLast_eq_take, dpLen h]
  exact dpTake _ h
theorem so_popSet {K : PySem.W.Frag} {i j : Nat} : SoS K ξ (tAsg (tBM0 K "list" rPop (tVar i)) (gName j)) (wPopSet i j) := fun EX G H σ ρ P R f D E => by
  unfold wPopSet at f
  split at f
  · rename_i ds e
    obtain ⟨a, es, hg, vs, hH, dd⟩ := R.own e
    split at f
    · rename_i d hd
      obtain ⟨v, e1, dv⟩ := dpGet dd hd
      refine ⟨.ref a, es, .inl ⟨rfl, vs, .inl (.inl hH)⟩, a, vs, v, rfl, rfl, hH, by rw [dpLen dd]; exact e1, ?_⟩
      obtain ⟨R2, S2, o2⟩ := R.mut1 (m' := .l ds.dropLast) (o := .lst vs.dropLast) e es (fun b hb => .inl (ownsl_in hb)) ⟨_, upd_same, dpDropLast dd⟩
      exact E.nx EX G _ _ _ S2 (R2.set j (r := .d d) dv) (fun b q => o2 b (own_set q)) f
    · exact f.elim
  · exact f.elim
theorem ms_popSet (i j : Nat) {py : Pos} (hN : X.N.Nodup) (hi : X.N[i]? = some x := by rfl) (hv : Vis X.env.scope x := by first | exact Or.inl rfl | exact Or.inr (Or.inl rfl) | exact Or.inr (Or.inr rfl)) (hd : (x == ("__debug__" : Str)) = false := by decide)
    (hcd : (x == ("__classdict__" : Str)) = false := by decide) (hbase : attributeBase (.Name x np) "pop" X.env (eval (.Name x np) X.env) = eval (.Name x np) X.env := by rfl) (hline : (apos.endLine == cpos.line) = true := by rfl)
    (hj : X.N[j]? = some y := by rfl) (hx : Loc X.env.scope y := by first | exact Or.inl rfl | exact Or.inr rfl) (hs : swapsWith (.Call (.Attribute (.Name x np) "pop" apos) [] [] cpos) (some (.Name y py)) pos.line X.env = pure false := by rfl)
    (hf : X.fn y = true ∨ X.env.scope.names.lookup y = some .local := by first | exact .inl rfl | exact .inr rfl) :
    MS X ξ (.Assign [.Name y py] (.Call (.Attribute (.Name x np) "pop" apos) [] [] cpos) pos) (tAsg (tBM0 X.K "list" rPop (tVar i)) (gName j)) (wPopSet i j) :=
  ⟨ps_set hN hj hx (pe_bm0 PySem.F.plainAttrs_list PySem.F.slot_list_pop PySem.F.type_list_pop mt_pop (pv i hi hv hd hcd) hbase hline) hs hf, so_popSet⟩
/-- x.pop(k), its item dropped or set to a name -/
def popAtW (ρ : Rh) (i : Nat) (z : Int) (Ψ : Rh → D → Prop) : Prop := match ρ[i]? with
  | some (.mu (.l ds)) => (-(2 ^ 63) ≤ z ∧ z < 2 ^ 63) ∧ (match seqIndex? z ds.length with
    | some k => (match ds[k]? with
      | some d => Ψ (ρ.set i (.mu (.l (ds.eraseIdx k)))) d
      | none => False)
    | none => False)
  | _ => False
def wPopAt (i : Nat) (wk : WE) : WS := fun ρ P => (∃ ds, ρ[i]? = some (.mu (.l ds))) ∧ wk ρ fun q => match q with
  | .d (.int z) => popAtW ρ i z fun ρ' _ => P.nx ρ'
  | _ => False
theorem so_popAt {K : PySem.W.Frag} {i : Nat} (hk : SoE K tk wk) : SoS K ξ (tDrop (tBM K "list" rPopAt (tVar i) (tCons tk tNil))) (wPopAt i wk) := fun EX G H σ ρ P R f D E => by
  obtain ⟨⟨ds, e⟩, f⟩ := f
  obtain ⟨a, es, hg, vs, hH, dd⟩ := R.own e
  refine ⟨.ref a, es, .inl ⟨rfl, vs, .inl (.inl hH)⟩, hk EX G H σ ρ _ R f _ fun u G1 H1 r S ru f1 => ?_⟩
  have R1 := R.step S
  split at f1
  · rename_i z
    unfold popAtW at f1
    rw [e] at f1
    simp only at f1
    obtain ⟨⟨z1, z2⟩, f1⟩ := f1
    split at f1
    · rename_i n hn
      split at f1
      · rename_i d hd
        obtain ⟨a', es', hg', vs', hH', dd'⟩ := R1.own e
        rw [es] at es'
        cases es'
        obtain ⟨v, e1, dv⟩ := dpGet dd' hd
        refine ⟨a, vs', z, n, v, rfl, by rw [rwInt ru], hH', z1, z2, by rw [dpLen dd']; exact hn, e1, ?_⟩
        obtain ⟨R2, S2, o2⟩ := R1.mut1 (m' := .l (ds.eraseIdx n)) (o := .lst (vs'.eraseIdx n)) e es (fun b hb => .inl (ownsl_in hb)) ⟨_, upd_same, dpErase n dd'⟩
        exact (E.step R.toGd S).nx EX G1 _ σ _ S2 R2 o2 f1
      · exact f1.elim
    · exact f1.elim
  · exact f1.elim
theorem ms_popAt (i : Nat) (hk : ME X k tk wk) (hN : X.N[i]? = some x := by rfl) (hv : Vis X.env.scope x := by first | exact Or.inl rfl | exact Or.inr (Or.inl rfl) | exact Or.inr (Or.inr rfl)) (hd : (x == ("__debug__" : Str)) = false := by decide)
    (hcd : (x == ("__classdict__" : Str)) = false := by decide) (hs : swapsWith (.Call (.Attribute (.Name x np) "pop" apos) [k] [] cpos) none pos.line X.env = pure false := by rfl)
    (hbase : attributeBase (.Name x np) "pop" X.env (eval (.Name x np) X.env) = eval (.Name x np) X.env := by rfl)
    (hfew : ((backTo cpos (starEach [k] X.env)).all (fun x => !x.1) && (backToKw cpos (keywordEach [] X.env)).all (fun x => x.1.isSome) && decide (([k] : List Expr).length + ([] : List Keyword).length + (if ([] : List Keyword).isEmpty then 0 else 1) < 30)) = true := by rfl)
    (hline : (apos.endLine == cpos.line) = true := by rfl) (hst : starEach [k] X.env = (false, eval k X.env) :: starEach [] X.env := by rfl) (hplain : (backTo cpos (starEach [] X.env)).any (·.1) = false := by rfl) :
    MS X ξ (.Expr (.Call (.Attribute (.Name x np) "pop" apos) [k] [] cpos) pos) (tDrop (tBM X.K "list" rPopAt (tVar i) (tCons tk tNil))) (wPopAt i wk) :=
  ⟨ps_expr (pe_bm PySem.F.plainAttrs_list PySem.F.slot_list_pop PySem.F.type_list_pop mt_popAt (pv i hN hv hd hcd) (pa_cons hk.pe pa_nil hst) hbase hfew hline hst hplain) hs, so_popAt hk.so⟩
def wPopAtSet (i j : Nat) (wk : WE) : WS := fun ρ P => (∃ ds, ρ[i]? = some (.mu (.l ds))) ∧ wk ρ fun q => match q with
  | .d (.int z) => popAtW ρ i z fun ρ' d => P.nx (ρ'.set j (.sh (.d d)))
  | _ => False
theorem so_popAtSet {K : PySem.W.Frag} {i j : Nat} (hk : SoE K tk wk) : SoS K ξ (tAsg (tBM K "list" rPopAt (tVar i) (tCons tk tNil)) (gName j)) (wPopAtSet i j wk) := fun EX G H σ ρ P R f D E => by
  obtain ⟨⟨ds, e⟩, f⟩ := f
  obtain ⟨a, es, hg, vs, hH, dd⟩ := R.own e
  refine ⟨.ref a, es, .inl ⟨rfl, vs, .inl (.inl hH)⟩, hk EX G H σ ρ _ R f _ fun u G1 H1 r S ru f1 => ?_⟩
  have R1 := R.step S
  split at f1
  · rename_i z
    unfold popAtW at f1
    rw [e] at f1
    simp only at f1
    obtain ⟨⟨z1, z2⟩, f1⟩ := f1
    split at f1
    · rename_i n hn
      split at f1
      · rename_i d hd
        obtain ⟨a', es', hg', vs', hH', dd'⟩ := R1.own e
        rw [es] at es'
        cases es'
        obtain ⟨v, e1, dv⟩ := dpGet dd' hd
        refine ⟨a, vs', z, n, v, rfl, by rw [rwInt ru], hH', z1, z2, by rw [dpLen dd']; exact hn, e1, ?_⟩
        obtain ⟨R2, S2, o2⟩ := R1.mut1 (m' := .l (ds.eraseIdx n)) (o := .lst (vs'.eraseIdx n)) e es (fun b hb => .inl (ownsl_in hb)) ⟨_, upd_same, dpErase n dd'⟩
        exact (E.step R.toGd S).nx EX G1 _ _ _ S2 (R2.set j (r := .d d) dv) (fun b q => o2 b (own_set q)) f1
      · exact f1.elim
    · exact f1.elim
  · exact f1.elim
theorem ms_popAtSet (i j : Nat) {py : Pos} (hNd : X.N.Nodup) (hk : ME X k tk wk) (hN : X.N[i]? = some x := by rfl) (hv : Vis X.env.scope x := by first | exact Or.inl rfl | exact Or.inr (Or.inl rfl) | exact Or.inr (Or.inr rfl)) (hd : (x == ("__debug__" : Str)) = false := by decide)
    (hcd : (x == ("__classdict__" : Str)) = false := by decide) 
    (hbase : attributeBase (.Name x np) "pop" X.env (eval (.Name x np) X.env) = eval (.Name x np) X.env := by rfl)
    (hfew : ((backTo cpos (starEach [k] X.env)).all (fun x => !x.1) && (backToKw cpos (keywordEach [] X.env)).all (fun x => x.1.isSome) && decide (([k] : List Expr).length + ([] : List Keyword).length + (if ([] : List Keyword).isEmpty then 0 else 1) < 30)) = true := by rfl)
    (hline : (apos.endLine == cpos.line) = true := by rfl) (hst : starEach [k] X.env = (false, eval k X.env) :: starEach [] X.env := by rfl) (hplain : (backTo cpos (starEach [] X.env)).any (·.1) = false := by rfl)
    (hj : X.N[j]? = some y := by rfl) (hx : Loc X.env.scope y := by first | exact Or.inl rfl | exact Or.inr rfl) (hs : swapsWith (.Call (.Attribute (.Name x np) "pop" apos) [k] [] cpos) (some (.Name y py)) pos.line X.env = pure false := by rfl)
    (hf : X.fn y = true ∨ X.env.scope.names.lookup y = some .local := by first | exact .inl rfl | exact .inr rfl) :
    MS X ξ (.Assign [.Name y py] (.Call (.Attribute (.Name x np) "pop" apos) [k] [] cpos) pos) (tAsg (tBM X.K "list" rPopAt (tVar i) (tCons tk tNil)) (gName j)) (wPopAtSet i j wk) :=
  ⟨ps_set hNd hj hx (pe_bm PySem.F.plainAttrs_list PySem.F.slot_list_pop PySem.F.type_list_pop mt_popAt (pv i hN hv hd hcd) (pa_cons hk.pe pa_nil hst) hbase hfew hline hst hplain) hs hf, so_popAtSet hk.so⟩
/-- x.extend(a new list) -/
def wExt (i : Nat) (wd : WD) : WS := fun ρ P => match ρ[i]? with
  | some (.mu (.l ds)) => wd ρ fun es => ds.length + es.length ≤ 1000000 ∧ P.nx (ρ.set i (.mu (.l (ds ++ es))))
  | _ => False
theorem so_ext {K : PySem.W.Frag} {i : Nat} {wd : WD} (h : SoL K te wd) : SoS K ξ (tDrop (tBM K "list" rExtend (tVar i) (tCons te tNil))) (wExt i wd) := fun EX G H σ ρ P R f D E => by
  unfold wExt at f
  split at f
  · rename_i ds e
    obtain ⟨a, es, hg, vs, hH, dd⟩ := R.own e
    refine ⟨.ref a, es, .inl ⟨rfl, vs, .inl (.inl hH)⟩, h EX G H σ ρ _ R f _ fun b us G1 H1 es1 S hb gb bb h1 de f1 => ?_⟩
    have R1 := R.step S
    obtain ⟨a', es', hg', vs', hH', dd'⟩ := R1.own e
    rw [es] at es'
    cases es'
    refine ⟨a, b, vs', us, rfl, rfl, hH', h1, by rw [dpLen dd', dpLen de]; exact mil_le f1.1, ?_⟩
    obtain ⟨R2, S2, o2⟩ := R1.mut1 (m' := .l (ds ++ es1)) (o := .lst (vs' ++ us)) e es (fun b hb => .inl (ownsl_in hb)) ⟨_, upd_same, dpApp dd' de⟩
    exact (E.step R.toGd S).nx EX G1 _ σ _ S2 R2 o2 f1.2
  · exact f.elim
theorem ms_ext (i : Nat) {wd : WD} (he : ML X e te wd) (hN : X.N[i]? = some x := by rfl) (hv : Vis X.env.scope x := by first | exact Or.inl rfl | exact Or.inr (Or.inl rfl) | exact Or.inr (Or.inr rfl)) (hd : (x == ("__debug__" : Str)) = false := by decide)
    (hcd : (x == ("__classdict__" : Str)) = false := by decide) (hs : swapsWith (.Call (.Attribute (.Name x np) "extend" apos) [e] [] cpos) none pos.line X.env = pure false := by rfl)
    (hbase : attributeBase (.Name x np) "extend" X.env (eval (.Name x np) X.env) = eval (.Name x np) X.env := by rfl)
    (hfew : ((backTo cpos (starEach [e] X.env)).all (fun x => !x.1) && (backToKw cpos (keywordEach [] X.env)).all (fun x => x.1.isSome) && decide (([e] : List Expr).length + ([] : List Keyword).length + (if ([] : List Keyword).isEmpty then 0 else 1) < 30)) = true := by rfl)
    (hline : (apos.endLine == cpos.line) = true := by rfl) (hst : starEach [e] X.env = (false, eval e X.env) :: starEach [] X.env := by rfl) (hplain : (backTo cpos (starEach [] X.env)).any (·.1) = false := by rfl) :
    MS X ξ (.Expr (.Call (.Attribute (.Name x np) "extend" apos) [e] [] cpos) pos) (tDrop (tBM X.K "list" rExtend (tVar i) (tCons te tNil))) (wExt i wd) :=
  ⟨ps_expr (pe_bm PySem.F.plainAttrs_list PySem.F.slot_list_extend PySem.F.type_list_extend mt_extend (pv i hN hv hd hcd) (pa_cons he.pe pa_nil hst) hbase hfew hline hst hplain) hs, so_ext he.so⟩
/-- x[k1], x[k2] = a, b of an own list -/
def wSet2 (i : Nat) (wA : WA) (wk1 wk2 : WE) : WS := fun ρ P => (∃ ds, ρ[i]? = some (.mu (.l ds))) ∧ wA ρ fun ws => match ws with
  | [.d u, .d v] => wk1 ρ fun q1 => (match q1 with
    | .d (.int z1) => (match ρ[i]? with
      | some (.mu (.l ds)) => (match ixN ds.length z1 with
        | some j1 => wk2 (ρ.set i (.mu (.l (ds.set j1 u)))) fun q2 => (match q2 with
          | .d (.int z2) => (match ixN ds.length z2 with
            | some j2 => P.nx (ρ.set i (.mu (.l ((ds.set j1 u).set j2 v))))
            | none => False)
          | _ => False)
        | none => False)
      | _ => False)
    | _ => False)
  | _ => False
theorem so_set2 {K : PySem.W.Frag} {i : Nat} (hA : SoA K tA wA) (h1 : SoE K tk1 wk1) (h2 : SoE K tk2 wk2) : SoS K ξ (tAsg (tTup tA) (gTup K 2 (gCons (gSub (tVar i) tk1 rSetL) (gCons (gSub (tVar i) tk2 rSetL) gNil)))) (wSet2 i wA wk1 wk2) := fun EX G H σ ρ P R f D E => by
  obtain ⟨⟨ds, e⟩, f⟩ := f
  have hil : i < ρ.length := (List.getElem?_eq_some_iff.mp e).1
  obtain ⟨a, es, hg, vs, hH, dd⟩ := R.own e
  refine hA EX G H σ ρ _ R f _ fun ws G1 H1 rs S rw f1 => ?_
  split at f1
  · rename_i u v
    obtain ⟨x1, x2, rfl, r1, r2⟩ := rw2 rw
    have R1 := R.step S
    refine ⟨le_line (show 2 ≤ 1000 by decide), fun p hp => ⟨p, [x1, x2], rfl, .inl (.inl upd_same), rfl, x1, [x2], rfl, ?_⟩⟩
    have S2 := R1.toGd.newOut (o := .tup [x1, x2]) hp
    have R2 := R1.step S2
    refine ⟨.ref a, es, h1 EX G1 _ σ ρ _ R2 f1 _ fun q1 G3 H3 c1 S3 rq1 f3 => ?_⟩
    have R3 := R2.step S3
    split at f3
    · rename_i z1
      rw [e] at f3
      simp only at f3
      split at f3
      · rename_i j1 hj1
        obtain ⟨a', es', hg', vs', hH', dd'⟩ := R3.own e
        rw [es] at es'
        cases es'
        refine ⟨a, vs', z1, j1, rfl, rwInt rq1, hH', by rw [dpLen dd']; exact hj1, x2, [], rfl, .ref a, es, ?_⟩
        have dx1 : Dd K G3 x1 u := rwMono (EX := EX) (EX' := EX) (r := .d u) (S2.trans S3).gg (fun _ _ h => h) r1
        obtain ⟨R4, S4, o4⟩ := R3.mut1 (m' := .l (ds.set j1 u)) (o := .lst (vs'.set j1 x1)) e es (fun b hb => .inl (ownsl_in hb)) ⟨_, upd_same, dpSet dx1 j1 dd'⟩
        refine h2 EX G3 _ σ _ _ R4 f3 _ fun q2 G5 H5 c2 S5 rq2 f5 => ?_
        have R5 := R4.step S5
        split at f5
        · rename_i z2
          split at f5
          · rename_i j2 hj2
            have e4 : (ρ.set i (.mu (.l (ds.set j1 u))))[i]? = some (.mu (.l (ds.set j1 u))) := List.getElem?_set_self hil
            obtain ⟨a', es', hg', vs5, hH5, dd5⟩ := R5.own e4
            rw [es] at es'
            cases es'
            refine ⟨a, vs5, z2, j2, rfl, rwInt rq2, hH5, by rw [dpLen dd5, List.length_set]; exact hj2, rfl, ?_⟩
            have dx2 : Dd K G5 x2 v := rwMono (EX := EX) (EX' := EX) (r := .d v) ((S2.trans S3).gg.trans S5.gg) (fun _ _ h => h) r2
            obtain ⟨R6, S6, o6⟩ := R5.mut1 (m' := .l ((ds.set j1 u).set j2 v)) (o := .lst (vs5.set j2 x2)) e4 es (fun b hb => .inl (ownsl_in hb)) ⟨_, upd_same, dpSet dx2 j2 dd5⟩
            rw [List.set_set] at R6 o6
            have E3 := E.step R.toGd ((S.trans S2).trans S3)
            have E4 := E3.from S4 R4.toGd o4
            exact (E4.step R4.toGd S5).nx EX G5 _ σ _ S6 R6 o6 f5
          · exact f5.elim
        · exact f5.elim
      · exact f3.elim
    · exact f3.elim
  · exact f1.elim
theorem ms_set2 (i : Nat) {kt n2 : Nat} (hA : MA X [a, b] tA wA) (h1 : ME X k1 tk1 wk1) (h2 : ME X k2 tk2 wk2) (hN : X.N[i]? = some x := by rfl) (hv : Vis X.env.scope x := by first | exact Or.inl rfl | exact Or.inr (Or.inl rfl) | exact Or.inr (Or.inr rfl)) (hd : (x == ("__debug__" : Str)) = false := by decide)
    (hcd : (x == ("__classdict__" : Str)) = false := by decide) (hc : X.calm = true := by rfl)
    (ha1 : ∀ v, assign (.Subscript (.Name x np) k1 t1) X.env v = (do
      let ov ← holding [v] (eval (.Name x np) X.env)
      let iv ← holding [v, ov] (eval k1 X.env)
      standAt t1
      holding [v, ov, iv] (setItem ov iv v)
      release [v, ov, iv] []) := by intro _; rfl)
    (ha2 : ∀ v, assign (.Subscript (.Name x np2) k2 t2) X.env v = (do
      let ov ← holding [v] (eval (.Name x np2) X.env)
      let iv ← holding [v, ov] (eval k2 X.env)
      standAt t2
      holding [v, ov, iv] (setItem ov iv v)
      release [v, ov, iv] []) := by intro _; rfl)
    (e1 : (assignEach [.Subscript (.Name x np) k1 t1, .Subscript (.Name x np2) k2 t2] X.env).map (·.2) = assign (.Subscript (.Name x np) k1 t1) X.env :: (assignEach [.Subscript (.Name x np2) k2 t2] X.env).map (·.2) := by rfl)
    (e2 : (assignEach [.Subscript (.Name x np2) k2 t2] X.env).map (·.2) = assign (.Subscript (.Name x np2) k2 t2) X.env :: (assignEach [] X.env).map (·.2) := by rfl)
    (hn : (assignEach [.Subscript (.Name x np) k1 t1, .Subscript (.Name x np2) k2 t2] X.env).length = 2 := by rfl) (hst : (assignEach [.Subscript (.Name x np) k1 t1, .Subscript (.Name x np2) k2 t2] X.env).findIdx? (·.1) = none := by rfl)
    (hs : swapsWithSole [.Tuple [.Subscript (.Name x np) k1 t1, .Subscript (.Name x np2) k2 t2] kt pt] (.Tuple [a, b] n2 pt2) pos.line X.env = pure false := by rfl) (hw : swappedStores [.Tuple [.Subscript (.Name x np) k1 t1, .Subscript (.Name x np2) k2 t2] kt pt] (.Tuple [a, b] n2 pt2) X.env = pure none := by rfl)
    (h3 : (assignEach [.Tuple [.Subscript (.Name x np) k1 t1, .Subscript (.Name x np2) k2 t2] kt pt] X.env).map (·.2) = [assign (.Tuple [.Subscript (.Name x np) k1 t1, .Subscript (.Name x np2) k2 t2] kt pt) X.env] := by rfl) :
    MS X ξ (.Assign [.Tuple [.Subscript (.Name x np) k1 t1, .Subscript (.Name x np2) k2 t2] kt pt] (.Tuple [a, b] n2 pt2) pos) (tAsg (tTup tA) (gTup X.K 2 (gCons (gSub (tVar i) tk1 rSetL) (gCons (gSub (tVar i) tk2 rSetL) gNil)))) (wSet2 i wA wk1 wk2) :=
  ⟨ps_asg (pe_tup hA.pa) (pg_tup hc (pgs_cons (pg_sub (pv i hN hv hd hcd) h1.pe set_list ha1) (pgs_cons (pg_sub (pv i hN hv hd hcd) h2.pe set_list ha2) pgs_nil e2) e1) hn hst) hs hw h3, so_set2 hA.so h1.so h2.so⟩
end
end Pd
end

section
set_option Elab.async false
set_option linter.all false
set_option maxRecDepth 100000
set_option autoImplicit false
/-! Pd, slices and indices of data, evaluated -/
namespace Pd
open PySem PySem.Spec PyProof.Rows L2
theorem sIx_pos {n d : Nat} {i : Int} (h : 0 ≤ i) : HT.sIx n d (some i) = min i.toNat n := by
  obtain ⟨k, rfl⟩ := Int.eq_ofNat_of_zero_le h
  exact HT.sIx_nat n d k
theorem take_min {α : Type} (xs : List α) (n : Nat) : xs.take (min n xs.length) = xs.take n := by
  rcases Nat.le_total n xs.length with h | h
  · rw [Nat.min_eq_left h]
  · rw [Nat.min_eq_right h, List.take_length, List.take_of_length_le h]
theorem drop_min {α : Type} (xs : List α) (n : Nat) : xs.drop (min n xs.length) = xs.drop n := by
  rcases Nat.le_total n xs.length with h | h
  · rw [Nat.min_eq_left h]
  · rw [Nat.min_eq_right h, List.drop_length, List.drop_of_length_le h]
theorem cutD_to {xs : List D} {i : Int} (h : 0 ≤ i) : cutD xs none (some i) = xs.take i.toNat := by
  unfold cutD
  rw [HT.sIx_none, sIx_pos h, List.drop_zero, Nat.sub_zero, take_min]
theorem cutD_from {xs : List D} {i : Int} (h : 0 ≤ i) : cutD xs (some i) none = xs.drop i.toNat := by
  unfold cutD
  rw [HT.sIx_none, sIx_pos h, ← List.length_drop, List.take_length, drop_min]
theorem cutD_mid {xs : List D} {i j : Int} (h : 0 ≤ i) (h' : 0 ≤ j) : cutD xs (some i) (some j) = (xs.take j.toNat).drop i.toNat := by
  unfold cutD
  rw [sIx_pos h, sIx_pos h', ← List.drop_take, take_min]
  rcases Nat.le_total i.toNat xs.length with z | z
  · rw [Nat.min_eq_left z]
  · rw [Nat.min_eq_right z, List.drop_of_length_le (by rw [List.length_take]; omega), List.drop_of_length_le (by rw [List.length_take]; omega)]
theorem cutD_all {xs : List D} : cutD xs none none = xs := by
  unfold cutD
  rw [HT.sIx_none, HT.sIx_none, List.drop_zero, Nat.sub_zero, List.take_length]
theorem cutD_neg {xs : List D} {k : Nat} (h : 0 < k) : cutD xs none (some (-(k : Int))) = xs.take (xs.length - k) := by
  unfold cutD
  rw [HT.sIx_none, List.drop_zero, Nat.sub_zero]
  show xs.take (if (-(k : Int)) < 0 then ((-(k : Int)) + (xs.length : Int)).toNat else _) = _
  rw [if_pos (by omega)]
  congr 1
  omega
theorem cutD_negd {xs : List D} {k : Nat} (h : 0 < k) : cutD xs (some (-(k : Int))) none = xs.drop (xs.length - k) := by
  unfold cutD
  rw [HT.sIx_none]
  have e : HT.sIx xs.length 0 (some (-(k : Int))) = xs.length - k := by
    show (if (-(k : Int)) < 0 then ((-(k : Int)) + (xs.length : Int)).toNat else _) = _
    rw [if_pos (by omega)]
    omega
  rw [e, ← List.length_drop, List.take_length]
theorem atI_pos {α : Type} {xs : List α} {i : Int} (h : 0 ≤ i) : atI xs i = xs[i.toNat]? := by
  unfold atI ixN
  rw [if_pos h]
  by_cases h1 : i < (xs.length : Int)
  · rw [if_pos h1]
    rfl
  · rw [if_neg h1]
    exact (List.getElem?_eq_none (by omega)).symm
theorem ev_ixL {ds : List D} {i : Int} {d : D} {Φ : W → Prop} (h : 0 ≤ i) (e : ds[i.toNat]? = some d) : oIx (.d (.list ds)) (.d (.int i)) Φ = Φ (.d d) := by
  unfold oIx
  simp only [atI_pos h, e]
theorem ev_ixT {ds : List D} {i : Int} {d : D} {Φ : W → Prop} (h : 0 ≤ i) (e : ds[i.toNat]? = some d) : oIx (.d (.tuple ds)) (.d (.int i)) Φ = Φ (.d d) := by
  unfold oIx
  simp only [atI_pos h, e]
theorem map_get {α β : Type} {f : α → β} {xs : List α} {i : Nat} {x : α} (h : xs[i]? = some x) : (xs.map f)[i]? = some (f x) := by
  rw [List.getElem?_map, h]
  rfl
theorem ev_i0 {d : D} {ds : List D} {Φ : W → Prop} : oIx (.d (.tuple (d :: ds))) (.d (.int 0)) Φ = Φ (.d d) := ev_ixT (by decide) rfl
theorem ev_i1 {d e : D} {ds : List D} {Φ : W → Prop} : oIx (.d (.tuple (d :: e :: ds))) (.d (.int 1)) Φ = Φ (.d e) := ev_ixT (by decide) rfl
theorem ev_i2 {d e f : D} {ds : List D} {Φ : W → Prop} : oIx (.d (.tuple (d :: e :: f :: ds))) (.d (.int 2)) Φ = Φ (.d f) := ev_ixT (by decide) rfl
theorem ev_l0 {d : D} {ds : List D} {Φ : W → Prop} : oIx (.d (.list (d :: ds))) (.d (.int 0)) Φ = Φ (.d d) := ev_ixL (by decide) rfl
theorem ev_l1 {d e : D} {ds : List D} {Φ : W → Prop} : oIx (.d (.list (d :: e :: ds))) (.d (.int 1)) Φ = Φ (.d e) := ev_ixL (by decide) rfl
theorem ev_l2 {d e f : D} {ds : List D} {Φ : W → Prop} : oIx (.d (.list (d :: e :: f :: ds))) (.d (.int 2)) Φ = Φ (.d f) := ev_ixL (by decide) rfl
end Pd
end

section
set_option Elab.async false
set_option linter.all false
set_option maxRecDepth 100000
set_option autoImplicit false
set_option maxHeartbeats 4000000
/-! Pd, own exception classes: over ValueError, over KeyError -/
namespace PySem
namespace PdX
open PySem.HandSPX Builtin Builtin.ObjectAttr
/-- own classes, then the built-in tail -/
def refsT (tl : List Value) : List Value → Bool
  | .ref _ :: r => refsT tl r
  | l => l == tl
theorem refsT_cut {tl : List Value} : ∀ {l : List Value}, refsT tl l = true → ∃ rs : List Addr, l = rs.map Value.ref ++ tl
  | [], h => ⟨[], by simpa [refsT] using h⟩
  | .ref c :: r, h => by
    obtain ⟨rs, e⟩ := refsT_cut (l := r) (by simpa [refsT] using h)
    exact ⟨c :: rs, by rw [e]; rfl⟩
  | .none :: _, h => ⟨[], by simpa [refsT] using h⟩
  | .ellipsis :: _, h => ⟨[], by simpa [refsT] using h⟩
  | .notImplemented :: _, h => ⟨[], by simpa [refsT] using h⟩
  | .bool _ :: _, h => ⟨[], by simpa [refsT] using h⟩
  | .int _ _ :: _, h => ⟨[], by simpa [refsT] using h⟩
  | .float _ _ :: _, h => ⟨[], by simpa [refsT] using h⟩
  | .str _ _ :: _, h => ⟨[], by simpa [refsT] using h⟩
  | .bytes _ _ :: _, h => ⟨[], by simpa [refsT] using h⟩
  | .type _ :: _, h => ⟨[], by simpa [refsT] using h⟩
  | .builtin _ :: _, h => ⟨[], by simpa [refsT] using h⟩
theorem refsT_has {tl l : List Value} (h : refsT tl l = true) (T : String) : l.contains (.type T) = tl.contains (.type T) := by
  obtain ⟨rs, rfl⟩ := refsT_cut h
  induction rs with
  | nil => rfl
  | cons c rs ih =>
    rw [List.map_cons, List.cons_append, List.contains_cons, ih ?_]
    · rfl
    · rw [List.map_cons, List.cons_append] at h
      exact h
theorem refsT_pass {tl l : List Value} (h : refsT tl l = true) (self : Value) (ht : refuseLoop self "__setattr__" tl = pure ()) : refuseLoop self "__setattr__" l = pure () := by
  obtain ⟨rs, rfl⟩ := refsT_cut h
  induction rs with
  | nil => exact ht
  | cons c rs ih =>
    rw [List.map_cons, List.cons_append, refuseLoop_ref]
    exact ih (by rw [List.map_cons, List.cons_append] at h; exact h)
/-- what is known of a built-in base: NB, whose __new__ serves; BI, whose __init__ serves; its tail -/
structure XB (NB BI newId initId : String) (tl : List Value) : Prop where
  nw : ∃ (i2 : String) (b2 : List Value), ExcBaseFacts NB newId i2 b2
  plain : Slot BI "__init__" initId
  entry : entryFor table initId = some Builtin.«BaseException.__init__»
  split : splitId initId = some (BI, "__init__")
  kind : builtinKind initId = some .slot
  row : Manifest.signature? initId = some ⟨.positional, "*", BI, .self, [⟨"args", .varPos, false⟩]⟩
  noStar : (BI != "*") = true
  hasN : tl.contains (.type NB) = true
  hasI : tl.contains (.type BI) = true
  hasO : tl.contains (.type "object") = true
  noAttr : tl.contains (.type "AttributeError") = false
  noName : tl.contains (.type "NameError") = false
  nonE : tl.isEmpty = false
  pass : ∀ self : Value, refuseLoop self "__setattr__" tl = pure ()
abbrev keTail : List Value := [.type "KeyError", .type "LookupError", .type "Exception", .type "BaseException", .type "object"]
theorem xbV : XB "ValueError" "ValueError" "ValueError.__new__" "ValueError.__init__" veTail where
  nw := ⟨_, _, F.excBase_ValueError⟩
  plain := F.excBase_ValueError.init
  entry := F.excBase_ValueError.initEntry
  split := F.excBase_ValueError.initSplit
  kind := F.excBase_ValueError.initKind
  row := F.excBase_ValueError.initRow
  noStar := F.excBase_ValueError.noStar
  hasN := by decide +kernel
  hasI := by decide +kernel
  hasO := by decide +kernel
  noAttr := by decide +kernel
  noName := by decide +kernel
  nonE := rfl
  pass := fun self => F.store_ValueError.passes self
theorem xbK : XB "LookupError" "KeyError" "LookupError.__new__" "KeyError.__init__" keTail where
  nw := ⟨_, _, F.excBase_LookupError⟩
  plain := .of (owner := "KeyError") (n := "__init__") (by rw [typeLookup_type, builtinLookup_eq_fast]; kernel_rfl) (by decide +kernel) (by decide +kernel) (by decide +kernel) (by first | exact .inl (by decide +kernel) | exact .inr (by decide +kernel))
    (by rw [isSubtype_type]; kernel_rfl)
  entry := entryFor_alias (id' := "BaseException.__init__") (by rw [fastTable_eq_tree]; kernel_rfl) (by first | rfl | decide +kernel) (by decide +kernel)
    (by rw [fastTable_eq_tree]; kernel_rfl)
  split := by kernel_rfl
  kind := by kernel_rfl
  row := by kernel_rfl
  noStar := by decide +kernel
  hasN := by decide +kernel
  hasI := by decide +kernel
  hasO := by decide +kernel
  noAttr := by decide +kernel
  noName := by decide +kernel
  nonE := rfl
  pass := fun self => by kernel_rfl

section
variable {M : Model} {prog : Program} {w : World} {A : Around} {E : Value → Shared → Prop} {R : Result → Shared → Prop} {h : Heap} {g : Array GenState} {d : Drawn} {t : Nat} {os : OsState}
variable {nm q : Str} {C N : Addr} {bs bm tl : List Value} {hdct : Bool} {sn : List Str} {sub : List Value} {ab : Bool} {col : Option Bool} {dd : Option Addr} {k0 k1 k2 k3 k5 : Option Value} {NB BI newId initId : String}
/-- the class's mro has the tail's types -/
theorem mroHas (hbm : refsT tl bm = true) (T : String) : (Value.ref C :: bm).contains (.type T) = tl.contains (.type T) := by
  rw [List.contains_cons, refsT_has hbm]
  rfl
theorem new_checks (B : XB NB BI newId initId tl) (hbm : refsT tl bm = true) {rest : List Value} {Q : Unit → Shared → Prop} (hC : h.get? C = some (excClassObj nm q C N bs bm hdct sn sub ab col dd k0 k1 k2 k3 k5 newId))
    (hq : Q () ⟨h, g, d, t, os⟩) : wpAny M A (checkBuiltinCall newId ⟨.ref C :: rest, []⟩) Q E ⟨h, g, d, t, os⟩ := by
  obtain ⟨_, _, F⟩ := B.nw
  have c1 := (mroHas (C := C) hbm NB).trans B.hasN
  have hstar := F.noStar
  simp only [checkBuiltinCall, F.newKind, F.newSplit, F.newRow]
  repeat (first
    | refine wpAny_loadPart_at hC ?_
    | (refine wpAny_isSubtype_exc hC ?_
       rw [c1])
    | refine wpAny_staticBase_exc hC ?_
    | refine wpAny_madeBy_exc hC ?_
    | simp only [bne_self_eq_false, Bool.false_eq_true, if_false]
    | wp_step)
  exact hq
theorem init_checks (B : XB NB BI newId initId tl) (hbm : refsT tl bm = true) {e : Addr} {oe : Obj} {rest : List Value} {Q : Unit → Shared → Prop} (hC : h.get? C = some (excClassObj nm q C N bs bm hdct sn sub ab col dd k0 k1 k2 k3 k5 newId))
    (he : h.get? e = some oe) (hcls : oe.cls = .ref C) (hq : Q () ⟨h, g, d, t, os⟩) : wpAny M A (checkBuiltinCall initId ⟨.ref e :: rest, []⟩) Q E ⟨h, g, d, t, os⟩ := by
  have c1 := (mroHas (C := C) hbm BI).trans B.hasI
  have hshort := B.noStar
  simp only [checkBuiltinCall, B.kind, B.split, B.row]
  repeat (first
    | (with_reducible refine wpAny_loadPart_at he ?_
       rw [hcls])
    | with_reducible refine wpAny_loadPart_at hC ?_
    | (with_reducible refine wpAny_isSubtype_exc hC ?_
       rw [c1])
    | wp_step)
  refine wpAny_onRaise ?_
  have star : ∀ (a b : String) (n : Nat), Bind.check ⟨.positional, "*", BI, .self, [⟨"args", .varPos, false⟩]⟩ a b n (List.map (fun x => x.fst) ({ pos := Value.ref e :: rest } : Args).kw) = pure () := fun a b n => check_star_args _ _ _ _ _ _
  rw [star]
  exact wpAny_pure hq
theorem new_runs (B : XB NB BI newId initId tl) (hbm : refsT tl bm = true) {rest : List Value} (hC : h.get? C = some (excClassObj nm q C N bs bm hdct sn sub ab col dd k0 k1 k2 k3 k5 newId))
    (hq : R (.ok (.ret (.ref (h.objs.size + 1)))) ⟨(h.push (W.kdv_tup rest)).push (excO C h.objs.size), g, d, t, os⟩) (hrest : rest.length ≤ sizeLine) : codeAny (model prog w) A (.builtin newId ⟨.ref C :: rest, []⟩) R ⟨h, g, d, t, os⟩ := by
  obtain ⟨_, _, F⟩ := B.nw
  have hends := F.ends
  have c1 := (mroHas (C := C) hbm NB).trans B.hasN
  have c2 := (mroHas (C := C) hbm "AttributeError").trans B.noAttr
  have c3 := (mroHas (C := C) hbm "NameError").trans B.noName
  refine codeAny_builtinAt F.entry ?_
  unfold Builtin.«BaseException.__new__»
  refine wpAt_bind ?_
  show wpAt _ _ _ (stack >>= _) _ _ _
  refine wpAt_bind (wpAt_stack fun p below => wpAt_of_wpAny ?_)
  wp_walk
  refine wpAt_of_wpAny ?_
  rw [F.owner]
  repeat (first
    | with_reducible refine wpAny_madeHere_exc F.canon hC ?_
    | with_reducible refine wpAny_loadPart_at hC ?_
    | (with_reducible refine wpAny_isSubtype_exc hC ?_
       first | rw [c1] | rw [c2] | rw [c3])
    | wp_step)
  show R _ _
  rw [Heap.size_push]
  exact hq
theorem call_runs (B : XB NB BI newId initId tl) (hbm : refsT tl bm = true) {rest : List Value} {fI : Addr} {Q : Fin → Shared → Prop} (hC : h.get? C = some (excClassObj nm q C N bs bm hdct sn sub ab col dd k0 k1 k2 k3 k5 newId))
    (hi : W.Looks (model prog w) h (typeLookup (.ref C) "__init__") (some (.ref fI))) (hb : ∀ self, W.Looks (model prog w) h (bindSpecial (.ref fI) self) (.ref fI, [self])) (hrest : rest.length ≤ sizeLine)
    (hq : codeAny (model prog w) A (.call (.ref fI) ⟨.ref (h.objs.size + 1) :: rest, []⟩) (fun r s' => match r with
      | .ok (.ret v) => v = .none ∧ Q (.done (.ret (.ref (h.objs.size + 1)))) s'
      | .ok _ => False
      | .error e => E e s') ⟨(h.push (W.kdv_tup rest)).push (excO C h.objs.size), g, d, t, os⟩) :
    wpAny (model prog w) A (Builtin.«type.__call__» ⟨.ref C :: rest, []⟩) Q E ⟨h, g, d, t, os⟩ := by
  obtain ⟨_, _, F⟩ := B.nw
  repeat (first
    | with_reducible refine wpAny_loadPart_at hC ?_
    | with_reducible refine wpAny_madeBy_exc hC ?_
    | wp_step)
  refine codeAny_call_builtin_code (Code.quiet_builtin _ F.quiet) (new_checks B hbm hC ?_)
  refine new_runs B hbm hC ?_ hrest
  show wpAny _ _ _ _ _ _
  have up : ∀ b o, h.get? b = some o → ((h.push (W.kdv_tup rest)).push (excO C h.objs.size)).get? b = some o := fun b o e => Heap.get?_push_of_some _ (Heap.get?_push_of_some _ e)
  have hC2 := up _ _ hC
  have hnew : ((h.push (W.kdv_tup rest)).push (excO C h.objs.size)).get? (h.objs.size + 1) = some (excO C h.objs.size) := by heap_get
  have own : (Value.ref C :: bm).contains (.ref C) = true := by simp
  have i2 := hi.keeps up
  have b2 := (hb (.ref (h.objs.size + 1))).keeps up
  unfold isInstance
  repeat (first
    | with_reducible refine wpAny_loadPart_at hnew ?_
    | (with_reducible refine wpAny_isSubtype_exc hC2 ?_
       rw [own])
    | wp_step)
  show wpAny _ _ (typeLookup (.ref C) _) _ _ _
  refine i2.at ?_
  refine wpAny_holding (wpAny_bind (b2.at ?_))
  refine wpAny_bind (wpAny_call (codeAny_mono hq fun r s' z => ?_))
  rcases r with e | (v | _ | _ | _) <;> first | exact z | exact z.elim | skip
  obtain ⟨rfl, z⟩ := z
  first
    | exact wpAny_pure (wpAny_pure z)
    | (wp_walk; exact z)
theorem made_runs (B : XB NB BI newId initId tl) (hbm : refsT tl bm = true) {rest : List Value} {fI : Addr} (hC : h.get? C = some (excClassObj nm q C N bs bm hdct sn sub ab col dd k0 k1 k2 k3 k5 newId))
    (hi : W.Looks (model prog w) h (typeLookup (.ref C) "__init__") (some (.ref fI))) (hb : ∀ self, W.Looks (model prog w) h (bindSpecial (.ref fI) self) (.ref fI, [self])) (hrest : rest.length ≤ sizeLine)
    (hq : codeAny (model prog w) (A.under (.builtin "type.__call__" ⟨.ref C :: rest, []⟩)) (.call (.ref fI) ⟨.ref (h.objs.size + 1) :: rest, []⟩) (W.InitBack (h.objs.size + 1) R) ⟨(h.push (W.kdv_tup rest)).push (excO C h.objs.size), g, d, t, os⟩) :
    codeAny (model prog w) A (.call (.ref C) ⟨rest, []⟩) R ⟨h, g, d, t, os⟩ := by
  have f1 := tc_lookup
  have f2 := tc_bind (.ref C)
  have hTy : (⟨h, g, d, t, os⟩ : Shared).TypeIs (.ref C) "type" := ⟨_, hC, rfl⟩
  refine codeAny_of_tree ?_
  show wpAny _ _ (callAny (.ref C) _) _ _ _
  repeat (any_goals (first
    | assumption
    | with_reducible refine wpAny_loadPart_at hC ?_
    | wp_step))
  refine ⟨rfl, ?_⟩
  refine codeAny_call_builtin_at (Code.quiet_builtin _ (by decide +kernel)) entry_typeCall (wpAny_check_type_call_sub hC (call_runs B hbm hC hi hb hrest ?_))
  refine codeAny_mono hq fun r s' z => ?_
  rcases r with e | (v | _ | _ | _) <;> exact z
/-- B.__init__(e, ..): the args are laid anew -/
theorem init_runs (B : XB NB BI newId initId tl) (hbm : refsT tl bm = true) {e t0 : Addr} {rest : List Value} (hC : h.get? C = some (excClassObj nm q C N bs bm hdct sn sub ab col dd k0 k1 k2 k3 k5 newId)) (he : h.get? e = some (excO C t0)) (hrest : rest.length ≤ sizeLine)
    (hq : ∀ h' t1, (∀ b o, b ≠ e → h.get? b = some o → h'.get? b = some o) → h'.get? e = some (excO C t1) → R (.ok (.ret .none)) ⟨h', g, d, t, os⟩) : codeAny (model prog w) A (.call (.builtin initId) ⟨.ref e :: rest, []⟩) R ⟨h, g, d, t, os⟩ := by
  refine codeAny_call_builtin B.plain.plain B.entry (init_checks B hbm hC he rfl ?_)
  wp_walk
  refine hq _ h.objs.size (fun b o hb ho => ?_) ?_
  · exact (Heap.get?_update_other _ _ (Ne.symm hb)).trans (Heap.get?_push_of_some _ ho)
  · exact (Heap.get?_update_self _ (Heap.get?_push_of_some _ he) rfl).trans rfl
end
end PdX
end PySem
end

section
set_option Elab.async false
set_option linter.all false
set_option maxRecDepth 100000
set_option autoImplicit false
set_option maxHeartbeats 4000000
/-! Pd, own exception classes: their fields, their __init__ -/
namespace PySem
namespace PdX
open PySem.W PySem.Calls PyProof.Rows PySem.HandSPX
section
open Builtin Builtin.ObjectAttr
variable {prog : Program} {w : World} {A : Around} {E : Value → Shared → Prop} {R : Result → Shared → Prop} {hp : Heap} {g : Array GenState} {d : Drawn} {t : Nat} {os : OsState}
variable {K : W.Frag} {name : Str} {tk : Tok} {v : Value} {x C dx : Addr} {fv : Array Value} {cd : ClassData} {m0 : Str → Option Value} {nl : List Str} {tl : List Value}
theorem refsT_ne {l : List Value} (h : refsT tl l = true) (ht : tl.isEmpty = false) : l.isEmpty = false := by
  obtain ⟨rs, rfl⟩ := refsT_cut h
  cases rs with
  | nil => exact ht
  | cons c rs => rfl
/-- name = v on x: what stands ahead of the store in x's own dict -/
theorem set_own {od : Option Addr} {oo : Option Obj} (X : K.In hp) (I : W.InstAt hp x { cls := .ref C, dict := od, data := .fields fv } C oo) (hcd : W.clsIn K C = some cd) (hm : refsT tl cd.mro = true) (hO : tl.contains (.type "object") = true) (ht : tl.isEmpty = false)
    (hps : ∀ self : Value, refuseLoop self "__setattr__" tl = pure ()) (ha : W.findIn K (.ref C) name = some none)
    (hq : wpAny (model prog w) A.in1 (storeInOwnDict (.ref x) (.ref C) (.str name tk) name v false) (fun fl s' => match fl with
      | .done r => R (.ok r) s'
      | .again c' => c'.quiet = true ∧ codeAny (model prog w) A c' R s') (fun e s' => R (.error e) s') ⟨hp, g, d, t, os⟩) :
    codeAny (model prog w) A (.call (.builtin "object.__setattr__") ⟨[.ref x, .str name tk, v], []⟩) R ⟨hp, g, d, t, os⟩ := by
  have SF := F.store_object
  have ob : cd.mro.contains (.type "object") = true := (refsT_has hm "object").trans hO
  have sub : W.Looks (model prog w) hp (isInstance (.ref x) (.type "object")) true := I.type.andThen (W.looks_mroIn X (by
    unfold W.mroIn
    rw [hcd, Option.bind_some, if_neg (by rw [refsT_ne hm ht]; decide), ob]))
  refine codeAny_call_builtin SF.slot.plain SF.entry (W.check_slot (s := ⟨hp, g, d, t, os⟩) (i := "object.__setattr__") (owner := "object") (n := "__setattr__") (self := .ref x) (rest := [.str name tk, v]) (kw := []) SF.kind SF.split sub
    (SF.args (.ref x) (.str name tk) v) ?_)
  have lm : W.Looks (model prog w) hp (mroOf (.ref C)) cd.mro := (W.looks_clsIn X hcd).andThen .now
  have l3 : W.Looks (model prog w) hp (storeTaker? none) none := .now
  rw [W.osa_eq, refuse_eq]
  refine wpAny_bind (wpAny_bind (I.type.at (wpAny_bind (lm.at ?_))))
  rw [refsT_pass hm _ (hps _)]
  exact wpAny_pure (wpAny_bind (I.type.at (wpAny_bind ((W.looks_findIn X ha).at (wpAny_bind (l3.at hq))))))
/-- the first field: the dict is made -/
theorem set_first (X : K.In hp) (hx : hp.get? x = some { cls := .ref C, data := .fields fv }) (hcd : W.clsIn K C = some cd) (hm : refsT tl cd.mro = true) (hO : tl.contains (.type "object") = true) (ht : tl.isEmpty = false) (hps : ∀ self : Value, refuseLoop self "__setattr__" tl = pure ()) (hh : cd.hasDict = true)
    (ha : W.findIn K (.ref C) name = some none) (hq : ∀ h' tk' dx, (∀ b o, b ≠ x → hp.get? b = some o → h'.get? b = some o) → hp.objs.size ≤ dx → dx ≠ x → h'.get? x = some { cls := .ref C, dict := some dx, data := .fields fv } → h'.Ns1 dx (fun y => if y = name then some v else none) →
      R (.ok (.ret .none)) ⟨h', g, d, tk', os⟩) : codeAny (model prog w) A (.call (.builtin "object.__setattr__") ⟨[.ref x, .str name tk, v], []⟩) R ⟨hp, g, d, t, os⟩ := by
  have far : x ≠ hp.objs.size := Nat.ne_of_lt (Heap.lt_size hx)
  have lc : W.Looks (model prog w) hp (classData C) cd := W.looks_clsIn X hcd
  refine set_own (oo := none) X ⟨hx, rfl, rfl, trivial⟩ hcd hm hO ht hps ha ?_
  obtain ⟨nm, bs, mro, ns, qn, hd, sn, sb, ab, col, del⟩ := cd
  dsimp only at hh
  subst hh
  unfold storeInOwnDict ownDictForStores
  repeat (first
    | with_reducible refine store_in_new ?_ ?_
    | with_reducible refine wpAny_loadPart_at hx ?_
    | with_reducible refine lc.at ?_
    | wp_step)
  · exact ⟨_, #[], _, (Heap.get?_update_ne _ _ _ _ far.symm).trans (Heap.get?_push_at rfl rfl), rfl, fun e he => absurd he (by simp), fun _ => rfl⟩
  · intro h' tk' hn hs
    have at1 : (hp.push { cls := .type "dict", data := .dict #[] }).get? x = some { cls := .ref C, data := .fields fv } := Heap.get?_push_of_some _ hx
    refine hq h' tk' hp.objs.size (fun b o hb ho => ?_) (Nat.le_refl _) far.symm ?_ hn
    · refine (hs.2 b (Nat.ne_of_lt (Heap.lt_size ho))).trans ?_
      refine (Heap.get?_update_ne _ _ _ _ hb).trans ?_
      exact Heap.get?_push_of_some _ ho
    · exact (hs.2 x far).trans (Heap.get?_update_self _ at1 rfl)
/-- a further field -/
theorem set_next (X : K.In hp) (hx : hp.get? x = some { cls := .ref C, dict := some dx, data := .fields fv }) (hns : hp.Ns1 dx m0) (hw : Within m0 nl) (hz : nl.length ≤ 1000) (hcd : W.clsIn K C = some cd) (hm : refsT tl cd.mro = true) (hO : tl.contains (.type "object") = true) (ht : tl.isEmpty = false)
    (hps : ∀ self : Value, refuseLoop self "__setattr__" tl = pure ()) (hh : cd.hasDict = true) (ha : W.findIn K (.ref C) name = some none)
    (hq : ∀ h' tk', (∀ b o, b ≠ dx → hp.get? b = some o → h'.get? b = some o) → h'.Ns1 dx (fun y => if y = name then some v else m0 y) → R (.ok (.ret .none)) ⟨h', g, d, tk', os⟩) :
    codeAny (model prog w) A (.call (.builtin "object.__setattr__") ⟨[.ref x, .str name tk, v], []⟩) R ⟨hp, g, d, t, os⟩ := by
  obtain ⟨oD, esD, epD, hoD, hdD, _⟩ := hns.count hw
  have lc : W.Looks (model prog w) hp (classData C) cd := W.looks_clsIn X hcd
  refine set_own (oo := some oD) X ⟨hx, rfl, rfl, hoD⟩ hcd hm hO ht hps ha ?_
  obtain ⟨nm, bs, mro, ns, qn, hd, sn, sb, ab, col, del⟩ := cd
  dsimp only at hh
  subst hh
  unfold storeInOwnDict ownDictForStores
  repeat (first
    | with_reducible refine PySem.OEX.store_in_old hns hw hz ?_
    | with_reducible refine wpAny_loadPart_at hx ?_
    | with_reducible refine lc.at ?_
    | wp_step)
  intro h' tk' hn hs
  exact hq h' tk' (fun b o hb ho => (hs.2 b hb).trans ho) hn
end
end PdX
end PySem

namespace Pd
open PySem PySem.Spec PyProof.Rows L2 PySem.PdX
/-- what the written part says of an own exception class with its own __init__; B: the base's __init__ that it calls -/
structure OeK (K : PySem.W.Frag) (C : Addr) (B : String) : Prop where
  cls : ∃ NB BI newId tl nm q N bs bm sn sub ab col dd k0 k1 k2 k3 k5, XB NB BI newId B tl ∧ K.lookup C = some (excClassObj nm q C N bs bm true sn sub ab col dd k0 k1 k2 k3 k5 newId) ∧ refsT tl bm = true
  sa : PySem.W.findIn K (.ref C) "__setattr__" = some (some (.builtin "object.__setattr__"))
  exC : PySem.W.subIn K (.ref C) (.type "BaseException") = some true
  tyC : PySem.W.typeIn K (.ref C) = some (.type "type")
  kC : PySem.W.keepIn K (.ref C) = true
section
variable {X : Cx} {pins : List (Addr × Obj)} {σ : L2.St} {H : Hp} {s : Shared} {a C dx : Addr} {f : Str} {B : String} {y : V} {u : Value} {fs : List (Str × V)} {Q : Unit → Shared → Prop} {E : Value → Shared → Prop} {A : Around}
theorem tail_ne {NB BI newId initId : String} {tl : List Value} (x : XB NB BI newId initId tl) (c : Addr) {bm : List Value} (h : refsT tl bm = true) : refsT tl (Value.ref c :: bm) = true := h
/-- self.f = y, the first field -/
theorem fld_first (T : OeK X.K C B) (I : Inv X pins σ H s) (e : H a = some (exo a C none)) (hno : PySem.W.findIn X.K (.ref C) f = some none) (ry : RelV y u)
    (h : ∀ dx s', H dx = none → dx ≠ a → Inv X pins σ (upd (upd H dx (exd dx [(f, y)])) a (exo a C (some dx))) s' → Q () s') : wpAny (model X.prog X.w) X.A (setAttr (.ref a) f u) Q E s := by
  obtain ⟨NB, BI, newId, tl, nm, q, N, bs, bm, sn, sub, ab, col, dd, k0, k1, k2, k3, k5, xb, hC, hbm⟩ := T.cls
  have hcl : PySem.W.clsIn X.K C = some { name := nm, bases := bs, mro := .ref C :: bm, ns := N, qualname := q, hasDict := true, slotNames := sn, subclasses := sub, abstract := ab, collection := col, hasDel := false } := by
    unfold PySem.W.clsIn
    rw [hC] <;> rfl
  obtain ⟨t1, ho⟩ := exo_at I.hok e
  obtain ⟨hp, g, d, t, os⟩ := s
  refine PySem.W.set_plain I.kIn (ox := { cls := .ref C, dict := none, data := .fields #[.ref t1, .none, .none, .none, .bool false, .none] }) (od := none) ⟨ho, rfl, rfl, trivial⟩ T.sa ?_
  refine set_first I.kIn ho hcl (tail_ne xb C hbm) xb.hasO xb.nonE xb.pass rfl hno fun h' tk' dx k dn dne hx hn => ?_
  have hnd : H dx = none := I.hok.fresh dn
  have old : ∀ {b : Addr} {o : Obj}, hp.get? b = some o → b ≠ dx := fun {b o} q => Nat.ne_of_lt (Nat.lt_of_lt_of_le (Heap.lt_size q) dn)
  have na : ∀ {b : Addr}, H b = none → b ≠ a := fun {b} n z => by
    rw [z, e] at n
    cases n
  have un : Un X.fs [] H (upd (upd H dx (exd dx [(f, y)])) a (exo a C (some dx))) hp h' := by
    constructor
    · exact fun b o q n _ _ => k b o (na n) q
    · exact fun b o q n _ _ => ⟨o.slots, k b o (na n) q⟩
    · intro b o q n _
      rw [upd_ne (na n), upd_ne (old q)]
      exact n
    · intro b o q _
      by_cases hb : b = a
      · exact ⟨_, hb ▸ hx⟩
      · exact ⟨o, k b o hb q⟩
    · intro b xs q
      rw [upd_ne (at_ne e q exo_tup), upd_ne (ne_of_none q hnd)]
      exact q
    · intro b o v q
      rw [upd_ne (at_ne e q exo_frz), upd_ne (ne_of_none q hnd)]
      exact q
    · intro b ps q
      refine ⟨#[], ?_⟩
      rw [upd_ne (at_ne e q exo_tbl), upd_ne (ne_of_none q hnd), q]
      simp
  refine h dx _ hnd dne (I.un (t' := tk') un fun b o q => ?_)
  by_cases hb : b = a
  · subst hb
    rw [upd_same] at q
    cases q
    exact exo_ok hx
  rw [upd_ne hb] at q
  by_cases hd : b = dx
  · subst hd
    rw [upd_same] at q
    cases q
    exact exd_ok hn (relO_put (fs := []) ry fun g => True.intro)
  rw [upd_ne hd] at q
  refine (I.hok b o q).stay (fun c v hc z => k c v ?_ z) (fun c hc => ?_) (fun c xs hc => ?_)
  · rcases hc with hc | hc
    · rw [hc]
      exact hb
    · exact at_ne e hc exo_own
  · rw [upd_ne (at_ne e hc exo_own), upd_ne (ne_of_none hc hnd)]
    exact hc
  · rw [upd_ne (at_ne e hc exo_tup), upd_ne (ne_of_none hc hnd)]
    exact hc
/-- self.f = y, a further field -/
theorem fld_next (T : OeK X.K C B) (I : Inv X pins σ H s) (e : H a = some (exo a C (some dx))) (ed : H dx = some (exd dx fs)) (hl : fs.length ≤ 900) (hno : PySem.W.findIn X.K (.ref C) f = some none) (ry : RelV y u)
    (h : ∀ s', Inv X pins σ (upd H dx (exd dx ((f, y) :: fs))) s' → Q () s') : wpAny (model X.prog X.w) X.A (setAttr (.ref a) f u) Q E s := by
  obtain ⟨NB, BI, newId, tl, nm, q, N, bs, bm, sn, sub, ab, col, dd, k0, k1, k2, k3, k5, xb, hC, hbm⟩ := T.cls
  have hcl : PySem.W.clsIn X.K C = some { name := nm, bases := bs, mro := .ref C :: bm, ns := N, qualname := q, hasDict := true, slotNames := sn, subclasses := sub, abstract := ab, collection := col, hasDel := false } := by
    unfold PySem.W.clsIn
    rw [hC] <;> rfl
  obtain ⟨t1, ho⟩ := exo_at I.hok e
  obtain ⟨mA, hns, rel⟩ := exd_at I.hok ed
  have hw := within_of rel
  obtain ⟨hp, g, d, t, os⟩ := s
  obtain ⟨oD, _, _, hoD, _, _⟩ := hns.count hw
  refine PySem.W.set_plain I.kIn (ox := { cls := .ref C, dict := some dx, data := .fields #[.ref t1, .none, .none, .none, .bool false, .none] }) (od := some oD) ⟨ho, rfl, rfl, hoD⟩ T.sa ?_
  refine set_next I.kIn ho hns hw (by rw [List.length_map]; omega) hcl (tail_ne xb C hbm) xb.hasO xb.nonE xb.pass rfl hno fun h' tk' k hn => ?_
  obtain ⟨o, es, ep, e', r'⟩ := hn
  exact h _ (I.write (t' := tk') (x := dx) (e := dx) (o := exd dx ((f, y) :: fs)) (by rw [ed]; exact True.intro) (.inl rfl) k ⟨o, e'⟩ (exd_ok ⟨o, es, ep, e', r'⟩ (relO_put ry rel)))
/-- B.__init__(self, ..): nothing of it is told -/
theorem base_init {us : List Value} {Q : Value → Shared → Prop} (T : OeK X.K C B) (I : Inv X pins σ H s) (e : H a = some (exo a C none)) (hl : us.length ≤ sizeLine) (h : ∀ s', Inv X pins σ H s' → Q .none s') :
    wpAny (model X.prog X.w) A (call (.builtin B) (.ref a :: us)) Q E s := by
  obtain ⟨NB, BI, newId, tl, nm, q, N, bs, bm, sn, sub, ab, col, dd, k0, k1, k2, k3, k5, xb, hC, hbm⟩ := T.cls
  obtain ⟨t1, ho⟩ := exo_at I.hok e
  obtain ⟨hp, g, d, t, os⟩ := s
  refine wpAny_call (init_runs xb hbm (I.kIn _ _ hC) ho hl fun h' t2 k hx => ?_)
  have J := I.write (t' := t) (x := a) (e := a) (o := exo a C none) (by rw [e]; exact True.intro) (.inl rfl) k ⟨_, hx⟩ (exo_ok hx)
  have eu : upd H a (exo a C none) = H := funext fun b => by
    by_cases hb : b = a
    · rw [hb, upd_same, e]
    · rw [upd_ne hb]
  rw [eu] at J
  exact h _ J
end
end Pd
end

section
set_option Elab.async false
set_option linter.all false
set_option maxRecDepth 100000
set_option autoImplicit false
set_option maxHeartbeats 4000000
/-! Pd, own exceptions made: the __init__ of their classes, C(..) -/
namespace Pd
open PySem PySem.Spec PyProof.Rows L2 PySem.PdX
section
variable {X : Cx} {o e : Expr} {es : List Expr} {to te : TE} {ta : TA} {f x : Str} {B : String} {D : Addr} {p p' p1 p2 pos : Pos}
/-- B.__init__(self, ..) -/
def tBase (K : PySem.W.Frag) (B : String) (ta : TA) : TE := fun σ H Q => ta σ H fun vs H1 => ∃ (a C : Addr) (ws : List V), vs = .ref a :: ws ∧ ws.length ≤ 1000 ∧ OeK K C B ∧ H1 a = some (exo a C none) ∧ Q .non H1
theorem base_tail {pins : List (Addr × Obj)} {σ : L2.St} {H : Hp} {s : Shared} {Q : VK} {us : List Value} {vs : List V} (I : Inv X pins σ H s) (r : Vals vs us) (h : ∃ (a C : Addr) (ws : List V), vs = .ref a :: ws ∧ ws.length ≤ 1000 ∧ OeK X.K C B ∧ H a = some (exo a C none) ∧ Q .non H) :
    wpAny (model X.prog X.w) X.A (call (.builtin B) us) (EP X pins σ Q) X.xe s := by
  obtain ⟨a, C, ws, rfl, hl, T, ea, q⟩ := h
  cases r with
  | @cons _ u0 _ ur ra rest =>
    obtain rfl : u0 = Value.ref a := ra
    refine base_init T I ea ?_ fun s' J => ⟨.non, H, J, rfl, q⟩
    rw [← Paired.length rest, sizeLine_eq]
    omega
/-- the base is a class of the program -/
theorem pe_initC {pl : Sem Bool} (hg : Gl X x) (hm : X.mg x = some (.ref D)) (hga : PySem.W.specialIn X.K (.ref D) "__getattribute__" = some (some (.builtin "type.__getattribute__"))) (hr : PySem.W.readsIn X.K D (.type "type") = true)
    (vV : PySem.W.findCls X.K (.ref D) (.type "type") "__init__" = some (.val (.builtin B))) (hB : PySem.W.handedIn (.builtin B) = true) (ha : PA X (e :: es) ta) (hdb : (x == ("__debug__" : Str)) = false := by decide)
    (hc : eval (.Call (.Attribute (.Name x p1) "__init__" p2) (e :: es) [] pos) X.env = (do
      let ov ← eval (.Name x p1) X.env
      standAt p2.atName
      let (f, first) ← holding [ov] (getMethod ov "__init__" pl)
      callWith pos f first (backTo pos (starEach (e :: es) X.env)) (backToKw pos (keywordEach [] X.env))) := by rfl)
    (he : starEach (e :: es) X.env = (false, eval e X.env) :: starEach es X.env := by rfl) (hpl : (backTo pos (starEach es X.env)).any (·.1) = false := by rfl) :
    PE X (.Call (.Attribute (.Name x p1) "__init__" p2) (e :: es) [] pos) (tBase X.K B ta) := by
  refine ⟨fun pins s σ H Q I h => ?_⟩
  refine PySem.W.methodCall_KW (ld_glob I hg hm ?_ hdb) hc
  refine PySem.W.method_cls I.kIn hga (PySem.W.cls_value I.kIn hr vV hB ?_)
  show wpAny _ _ (callWith pos (Value.builtin B) [] (backTo pos (starEach (e :: es) X.env)) []) _ _ _
  exact PyProof.Rows.callWith_method1 (thn (ha.run pos pins _ σ H _ (I.tok _) h) fun us s1 ⟨vs, H1, I1, r1, q⟩ => base_tail I1 r1 q) he hpl
/-- the base is KeyError -/
theorem pe_initK {pl : Sem Bool} (hg : Gl X "KeyError") (hm : X.mg "KeyError" = none) (vV : PySem.W.findCls X.K (.type "KeyError") (.type "type") "__init__" = some (.val (.builtin "KeyError.__init__"))) (ha : PA X (e :: es) ta)
    (hc : eval (.Call (.Attribute (.Name "KeyError" p1) "__init__" p2) (e :: es) [] pos) X.env = (do
      let ov ← eval (.Name "KeyError" p1) X.env
      standAt p2.atName
      let (f, first) ← holding [ov] (getMethod ov "__init__" pl)
      callWith pos f first (backTo pos (starEach (e :: es) X.env)) (backToKw pos (keywordEach [] X.env))) := by rfl)
    (he : starEach (e :: es) X.env = (false, eval e X.env) :: starEach es X.env := by rfl) (hpl : (backTo pos (starEach es X.env)).any (·.1) = false := by rfl) :
    PE X (.Call (.Attribute (.Name "KeyError" p1) "__init__" p2) (e :: es) [] pos) (tBase X.K "KeyError.__init__" ta) := by
  refine ⟨fun pins s σ H Q I h => ?_⟩
  refine PySem.W.methodCall_KW (ld_blt I hg hm boot_KeyError ?_ (by decide) (by decide)) hc
  obtain ⟨m, fr⟩ := I.fr
  refine PySem.W.method_type fr I.ok.mod.kin ty_KeyError (by decide +kernel) vV (by decide +kernel) ?_
  show wpAny _ _ (callWith pos (Value.builtin "KeyError.__init__") [] (backTo pos (starEach (e :: es) X.env)) []) _ _ _
  exact PyProof.Rows.callWith_method1 (thn (ha.run pos pins _ σ H _ (I.tok _) h) fun us s1 ⟨vs, H1, I1, r1, q⟩ => base_tail I1 r1 q) he hpl
/-- self.f = e -/
def tFld (K : PySem.W.Frag) (B : String) (f : Str) (to te : TE) : TS := fun D σ H => te σ H fun y H1 => to σ H1 fun x H2 => ∃ a C : Addr, x = .ref a ∧ OeK K C B ∧ PySem.W.findIn K (.ref C) f = some none ∧
  ((H2 a = some (exo a C none) ∧ ∀ dx, H2 dx = none → dx ≠ a → D.nx σ (upd (upd H2 dx (exd dx [(f, y)])) a (exo a C (some dx)))) ∨
    ∃ (dx : Addr) (fs : List (Str × V)), H2 a = some (exo a C (some dx)) ∧ H2 dx = some (exd dx fs) ∧ fs.length ≤ 900 ∧ D.nx σ (upd H2 dx (exd dx ((f, y) :: fs))))
theorem ps_fldX (ho : PE X o to) (he : PE X e te) (hs : swapsWith e (some (.Attribute o f p')) pos.line X.env = pure false := by rfl) : PS X (.Assign [.Attribute o f p'] e pos) (tFld X.K B f to te) := by
  refine ⟨fun pins s σ H D I h => plainObj_wpAny_Assign_Attribute (thn (he.run pins s σ H _ I h) fun v s1 ⟨y, H1, I1, r1, q1⟩ => thn (ho.run pins s1 σ H1 _ I1 q1) fun u s2 ⟨x, H2, I2, r2, a, C, ex, T, hno, q⟩ => ?_) hs⟩
  subst ex
  obtain rfl : u = Value.ref a := r2
  rcases q with ⟨ea, q⟩ | ⟨dx, fs, ea, ed, hl, q⟩
  · exact fld_first T I2 ea hno r1 fun dx s' n ne J => ⟨σ, _, J, q dx n ne⟩
  · exact fld_next T I2 ea ed hl hno r1 fun s' J => ⟨σ, _, J, q⟩
end

/-! ### what an __init__ keeps -/
def spInit (C : Addr) (fl : List Str) : Sp := fun vs H Q _ => ∃ (a : Addr) (ys : List V), vs = .ref a :: ys ∧ ys.length = fl.length ∧ H a = some (exo a C none) ∧
  ∀ (dx : Addr) (H' : Hp), H dx = none → dx ≠ a → (∀ b, b ≠ dx → b ≠ a → H' b = H b) → H' a = some (exo a C (some dx)) → H' dx = some (exd dx (fl.zip ys).reverse) → Q .non H'
theorem spInit_len {C : Addr} {fl : List Str} {n : Nat} (hn : n = fl.length + 1) : ∀ vs H Q E, spInit C fl vs H Q E → vs.length = n := fun vs H Q E ⟨a, ys, h1, h2, _⟩ => by
  rw [h1, List.length_cons, h2, hn]
/-- an own exception class: its facts, its __init__ -/
structure Oe (P : Program) (w : World) (K : PySem.W.Frag) (mg : Str → Option Value) (base : Heap) (x : Str) (fl : List Str) : Prop where
  ex : ∃ (C fI : Addr) (fd : FuncData) (ps : List Str) (B : String), mg x = some (.ref C) ∧ OeK K C B ∧ PySem.W.findIn K (.ref C) "__init__" = some (some (.ref fI)) ∧ PySem.W.typeIn K (.ref fI) = some (.type "function") ∧
    FnOk P w K mg base CX0 1 fI fd ps (spInit C fl) ∧ Binds K fd ps [] ∧ ps.length = fl.length + 1 ∧ fl.length ≤ 10 ∧ fl ≠ []
section
variable {P : Program} {w : World} {K : PySem.W.Frag} {mg : Str → Option Value} {base : Heap} {C D : Addr} {f : Addr} {fd : FuncData} {qual : Str} {B : String} {x f1 f2 : Str}
theorem upd_of {H : Hp} {b c : Addr} {o : HO} (h : b ≠ c) : upd H c o b = H b := upd_ne h
/-- one field -/
theorem init_one {st : Stmt} (F : Fun K "__init__" qual st f fd) (S : FnScope ["self", f1] ["self", f1] (defScope st)) (T : OeK K C B) (hno : PySem.W.findIn K (.ref C) f1 = some none)
    (hb : ∀ (cdv : Value) (A : Around) (outer : List Env) (s : Shared) (H : Hp) (E : XK), ∃ (tx : TE), PSs (cxOf CX0 P w K mg base ["self", f1] qual (defScope st) f cdv A outer s H E).nox (defBody st) (tSeq (tDrop (tBase K B (tCons (tVar 0) (tCons tx tNil)))) (tFld K B f1 (tVar 0) (tVar 1))) ∧ ∃ v, tx = tC v) :
    FnOk P w K mg base CX0 1 f fd ["self", f1] (spInit C [f1]) := F.ok S (spInit_len rfl) fun cdv A outer s H vs Q E hr hsp => by
  obtain ⟨tx, hP, v, rfl⟩ := hb cdv A outer s H E
  refine ⟨_, hP, ?_⟩
  obtain ⟨a, ys, rfl, hl, ea, q⟩ := hsp
  obtain ⟨y, rfl⟩ : ∃ y, ys = [y] := by
    match ys, hl with
    | [y], _ => exact ⟨y, rfl⟩
  refine ⟨_, rfl, ⟨a, C, [v], rfl, (by show 1 ≤ 1000; decide), T, ea, ?_⟩⟩
  refine ⟨_, rfl, _, rfl, a, C, rfl, T, hno, .inl ⟨ea, fun dx n ne => q dx _ n ne (fun b h1 h2 => ?_) upd_same ?_⟩⟩
  · rw [upd_ne h2, upd_ne h1]
  · rw [upd_ne ne, upd_same]
    rfl
/-- two fields -/
theorem init_two {st : Stmt} (F : Fun K "__init__" qual st f fd) (S : FnScope ["self", f1, f2] ["self", f1, f2] (defScope st)) (T : OeK K C B) (hno : PySem.W.findIn K (.ref C) f1 = some none) (hno2 : PySem.W.findIn K (.ref C) f2 = some none)
    (hb : ∀ (cdv : Value) (A : Around) (outer : List Env) (s : Shared) (H : Hp) (E : XK), ∃ (tx : TE), PSs (cxOf CX0 P w K mg base ["self", f1, f2] qual (defScope st) f cdv A outer s H E).nox (defBody st)
      (tSeq (tDrop (tBase K B (tCons (tVar 0) (tCons tx tNil)))) (tSeq (tFld K B f1 (tVar 0) (tVar 1)) (tFld K B f2 (tVar 0) (tVar 2)))) ∧ ∃ v, tx = tC v) :
    FnOk P w K mg base CX0 1 f fd ["self", f1, f2] (spInit C [f1, f2]) := F.ok S (spInit_len rfl) fun cdv A outer s H vs Q E hr hsp => by
  obtain ⟨tx, hP, v, rfl⟩ := hb cdv A outer s H E
  refine ⟨_, hP, ?_⟩
  obtain ⟨a, ys, rfl, hl, ea, q⟩ := hsp
  obtain ⟨y, z, rfl⟩ : ∃ y z, ys = [y, z] := by
    match ys, hl with
    | [y, z], _ => exact ⟨y, z, rfl⟩
  refine ⟨_, rfl, ⟨a, C, [v], rfl, (by show 1 ≤ 1000; decide), T, ea, ?_⟩⟩
  refine ⟨_, rfl, _, rfl, a, C, rfl, T, hno, .inl ⟨ea, fun dx n ne => ?_⟩⟩
  refine ⟨_, rfl, _, rfl, a, C, rfl, T, hno2, .inr ⟨dx, [(f1, y)], upd_same, ?_, by simp, q dx _ n ne (fun b h1 h2 => ?_) ?_ upd_same⟩⟩
  · rw [upd_ne ne, upd_same]
  · rw [upd_ne h1, upd_ne h2, upd_ne h1]
  · rw [upd_ne (Ne.symm ne), upd_same]
end

/-! ### C(..) -/
/-- C(e, ..): the exception's own dict is new -/
def tMkX (C : Addr) (fl : List Str) (ta : TA) : L2.St → Hp → XK → Prop := fun σ H Q => ta σ H fun vs H1 => vs.length = fl.length ∧ ∀ d, H1 d = none → Q (.ref C) (some d) (upd H1 d (.xd (fl.zip vs).reverse))
theorem del_upd {H H2 : Hp} {a d : Addr} {o : HO} (ha : H a = none) (ne : d ≠ a) (k : ∀ b, b ≠ d → b ≠ a → H2 b = H b) : upd (del H2 a) d o = upd H d o := funext fun b => by
  by_cases hd : b = d
  · rw [hd, upd_same, upd_same]
  · rw [upd_ne hd, upd_ne hd]
    by_cases hb : b = a
    · rw [hb, del_same, ha]
    · rw [del_ne hb, k b hd hb]
theorem pmk_x {X : Cx} {x : Str} {e : Expr} {es : List Expr} {ta : TA} {p pos : Pos} {C fI : Addr} {fd : FuncData} {ps fl : List Str} {B : String} {j : Nat} (T : OeK X.K C B) (iC : PySem.W.findIn X.K (.ref C) "__init__" = some (some (.ref fI)))
    (tI : PySem.W.typeIn X.K (.ref fI) = some (.type "function")) (F1 : FnOk X.prog X.w X.K X.mg X.base CX0 1 fI fd ps (spInit C fl)) (hr : Room (j + 2) X.A) (hb : Binds X.K fd ps []) (hps : ps.length = fl.length + 1) (hfl : fl.length ≤ 10) (hg : Gl X x) (hm : X.mg x = some (.ref C)) (ha : PA X (e :: es) ta)
    (hdb : (x == ("__debug__" : Str)) = false) (he : starEach (e :: es) X.env = (false, eval e X.env) :: starEach es X.env) (hpl : (backTo pos (starEach es X.env)).any (·.1) = false) :
    L2N.PMk X (.Call (.Name x p) (e :: es) [] pos) (tMkX C fl ta) := by
  intro pins s σ H Q I h
  obtain ⟨NB, BI, newId, tl, nm, q, N, bs, bm, sn, sub, ab, col, dd, k0, k1, k2, k3, k5, xb, hC, hbm⟩ := T.cls
  refine wpAny_Call_Name_kw (ld_glob I hg hm ?_ hdb)
  refine PySem.W.callWith_K (h₀ := X.base) I.ok.mod.kin T.kC (thn (ha.run pos pins s σ H _ I h) fun us s1 ⟨vs, H1, I1, r1, hz, q1⟩ => ⟨I1.kIn, ?_⟩) he hpl
  show wpAny _ _ (call (.ref C) us) _ _ _
  obtain ⟨hp, g, dr, tk, os⟩ := s1
  obtain ⟨a, rfl⟩ : ∃ a, a = hp.objs.size + 1 := ⟨_, rfl⟩
  have big : hp.objs.size ≤ hp.objs.size + 1 := Nat.le_succ _
  have hn : H1 (hp.objs.size + 1) = none := I1.hok.fresh big
  have up : ∀ b o, hp.get? b = some o → ((hp.push (PySem.W.kdv_tup us)).push (PySem.HandSPX.excO C hp.objs.size)).get? b = some o := fun b o e => Heap.get?_push_of_some _ (Heap.get?_push_of_some _ e)
  have hget : ((hp.push (PySem.W.kdv_tup us)).push (PySem.HandSPX.excO C hp.objs.size)).get? (hp.objs.size + 1) = some (PySem.HandSPX.excO C hp.objs.size) := by heap_get
  have I2 : Inv X pins σ (upd H1 (hp.objs.size + 1) (exo (hp.objs.size + 1) C none)) ⟨(hp.push (PySem.W.kdv_tup us)).push (PySem.HandSPX.excO C hp.objs.size), g, dr, tk, os⟩ := I1.laid (t' := tk) up big (exo_ok hget)
  have hsp : spInit C fl (.ref (hp.objs.size + 1) :: vs) (upd H1 (hp.objs.size + 1) (exo (hp.objs.size + 1) C none)) (fun v H2 => v = .non ∧ ∃ d : Addr, H2 (hp.objs.size + 1) = some (exo (hp.objs.size + 1) C (some d)) ∧ H2 d = some (exd d (fl.zip vs).reverse) ∧ H1 d = none ∧ d ≠ hp.objs.size + 1 ∧
      ∀ b, b ≠ d → b ≠ hp.objs.size + 1 → H2 b = H1 b) E0 := by
    refine ⟨_, vs, rfl, hz, upd_same, fun dx H' n ne k e1 e2 => ⟨rfl, dx, e1, e2, ?_, ne, fun b h1 h2 => ?_⟩⟩
    · rw [upd_ne ne] at n
      exact n
    · rw [k b h1 h2, upd_ne h2]
  have r2 : Vals (V.ref (hp.objs.size + 1) :: vs) (Value.ref (hp.objs.size + 1) :: us) := .cons rfl r1
  have hl : (Value.ref (hp.objs.size + 1) :: us ++ ([] : List Value)).length = ps.length := by
    rw [List.append_nil, ← Paired.length r2, List.length_cons, hz, hps]
  have hus : us.length ≤ sizeLine := by
    rw [← Paired.length r1, hz, sizeLine_eq]
    omega
  have hbd := hb _ (Value.ref (hp.objs.size + 1) :: us) I2.kIn hl
  rw [List.append_nil] at hbd
  refine wpAny_call (made_runs xb hbm (I1.kIn _ _ hC) (PySem.W.looks_findIn I1.kIn iC) (fun self => PySem.W.bind_fn I1.kIn self tI) hus (codeAny_mono (F1.run _ X.stack _ _ ⟨Value.ref (hp.objs.size + 1) :: us, []⟩ (Value.ref (hp.objs.size + 1) :: us) _ _ E0
    ((hr.mono (by omega : 2 ≤ j + 2)).make C us []) (I2.env0.make C us []) hbd r2 hsp) fun r s' hq' => ?_))
  cases r with
  | error er => exact hq'.elim
  | ok fl' =>
    cases fl' with
    | ret u =>
      obtain ⟨v, H2, os2, bare2, un2, hok2, rv, ev, d, ea, ed, hd1, ne, k⟩ := hq'
      subst ev
      obtain ⟨h2, g2, d2, t2, os'⟩ := s'
      refine ⟨rv, ?_⟩
      obtain ⟨t0, G, J, kG, ge, hoe, na⟩ := mk_end0 (d2 := d2) (t2 := t2) I1 big up un2 hok2 os2 bare2 ea ed hd1
      rw [del_upd hn ne k] at J na
      exact ⟨hp.objs.size + 1, _, _, ⟨G, g2, d2, t2, os'⟩, _, .ref C, some d, rfl, J, kG, ge, hoe, ⟨rfl, rfl, fun vs e => by cases e; rfl⟩, rfl, rfl, na, rfl, bare2, raises_own T.exC T.tyC, q1 d hd1⟩
    | next => exact False.elim hq'
    | brk => exact False.elim hq'
    | cont => exact False.elim hq'
end Pd
end

section
set_option Elab.async false
set_option linter.all false
set_option maxRecDepth 100000
set_option autoImplicit false
set_option maxHeartbeats 4000000
/-! Pd, defs that may raise: their promises, their calls, expressions with such calls -/
namespace Pd
open PySem PySem.Spec PyProof.Rows L2 PySem.PdX
variable {ξ : XI}
abbrev FX := List W → (W → Prop) → (Xn → Prop) → Prop
abbrev WEX := Rh → (W → Prop) → (Xn → Prop) → Prop
abbrev WTX := Rh → (Bool → Prop) → (Xn → Prop) → Prop
abbrev WAX := Rh → (List W → Prop) → (Xn → Prop) → Prop
abbrev WDX := Rh → (List D → Prop) → (Xn → Prop) → Prop
abbrev FldD (K : PySem.W.Frag) (G : Hp) : List (Str × V) → List (Str × D) → Prop := Paired fun p q => p.1 = q.1 ∧ Dd K G p.2 q.2
/-- an exception of the class at cls, its own dict at d -/
def RwX (K : PySem.W.Frag) (mg : Str → Option Value) (G : Hp) (cls : Value) (d : Option Addr) (x : Xn) : Prop := ∃ (C dd : Addr) (fs : List (Str × V)), mg x.cls = some (.ref C) ∧ cls = .ref C ∧ d = some dd ∧ G dd = some (.xd fs) ∧ FldD K G fs x.fs
def xiW (K : PySem.W.Frag) (mg : Str → Option Value) (Wx : WX) : XI := fun x σ G H => ∀ cls d, RwX K mg G cls d x → Wx cls d σ H

/-! ### the judgements -/
def SoEX (K : PySem.W.Frag) (ξ : XI) (t : TE) (w : WEX) : Prop := ∀ (EX : Ext) (G H : Hp) (σ : L2.St) (ρ : Rh) (Φ : W → Prop) (Θ : Xn → Prop), Rel K EX G H σ ρ → w ρ Φ Θ → (∀ G' H' x, Step EX G H G' H' → Θ x → ξ x σ G' H') →
  ∀ Q : VK, (∀ v G' H' r, Step EX G H G' H' → Rw K EX G' v r → Φ r → Q v H') → t σ H Q
structure MEX (X : Cx) (ξ : XI) (e : Expr) (t : TE) (w : WEX) : Prop where
  pe : PE X e t
  so : SoEX X.K ξ t w
def SoTX (K : PySem.W.Frag) (ξ : XI) (t : TT) (w : WTX) : Prop := ∀ (EX : Ext) (G H : Hp) (σ : L2.St) (ρ : Rh) (Φ : Bool → Prop) (Θ : Xn → Prop), Rel K EX G H σ ρ → w ρ Φ Θ → (∀ G' H' x, Step EX G H G' H' → Θ x → ξ x σ G' H') →
  ∀ Q : Bool → Hp → Prop, (∀ b G' H', Step EX G H G' H' → Φ b → Q b H') → t σ H Q
structure MTX (X : Cx) (ξ : XI) (e : Expr) (t : TT) (w : WTX) : Prop where
  pt : PT X e t
  so : SoTX X.K ξ t w
structure MWX (X : Cx) (ξ : XI) (e : Expr) (t : TT) (w : WTX) : Prop where
  pw : PW X e t
  so : SoTX X.K ξ t w
def SoAX (K : PySem.W.Frag) (ξ : XI) (t : TA) (w : WAX) : Prop := ∀ (EX : Ext) (G H : Hp) (σ : L2.St) (ρ : Rh) (Φ : List W → Prop) (Θ : Xn → Prop), Rel K EX G H σ ρ → w ρ Φ Θ → (∀ G' H' x, Step EX G H G' H' → Θ x → ξ x σ G' H') →
  ∀ Q : List V → Hp → Prop, (∀ vs G' H' rs, Step EX G H G' H' → RwAll K EX G' vs rs → Φ rs → Q vs H') → t σ H Q
structure MAX (X : Cx) (ξ : XI) (es : List Expr) (t : TA) (w : WAX) : Prop where
  pa : PA X es t
  so : SoAX X.K ξ t w
def SoLX (K : PySem.W.Frag) (ξ : XI) (t : TE) (w : WDX) : Prop := ∀ (EX : Ext) (G H : Hp) (σ : L2.St) (ρ : Rh) (Φ : List D → Prop) (Θ : Xn → Prop), Rel K EX G H σ ρ → w ρ Φ Θ → (∀ G' H' x, Step EX G H G' H' → Θ x → ξ x σ G' H') →
  ∀ Q : VK, (∀ a vs G' H' ds, Step EX G H G' H' → H a = none → G' a = none → ¬ EX a .box → H' a = some (.lst vs) → DdAll K G' vs ds → Φ ds → Q (.ref a) H') → t σ H Q
structure MLX (X : Cx) (ξ : XI) (e : Expr) (t : TE) (w : WDX) : Prop where
  pe : PE X e t
  so : SoLX X.K ξ t w

section
variable {K : PySem.W.Frag} {EX : Ext} {G H G1 H1 : Hp} {σ : L2.St} {Θ : Xn → Prop}
theorem ex_step (h : ∀ G' H' x, Step EX G H G' H' → Θ x → ξ x σ G' H') (S : Step EX G H G1 H1) : ∀ G' H' x, Step EX G1 H1 G' H' → Θ x → ξ x σ G' H' := fun G' H' x S' q => h G' H' x (S.trans S') q
end
section
variable {X : Cx} {e a b c i o : Expr} {es rest : List Expr} {t ta tb tc : TE} {tA : TA} {tt tu : TT} {w wa wb wc : WE} {wA : WA} {u ua ub uc : WEX} {uA : WAX} {wt : WT} {ut uv : WTX} {pos p : Pos}
def xE (w : WE) : WEX := fun ρ Φ _ => w ρ Φ
theorem mex_e (h : ME X e t w) : MEX X ξ e t (xE w) := ⟨h.pe, fun EX G H σ ρ Φ Θ R f hx Q q => h.so EX G H σ ρ Φ R f Q q⟩
def xT (w : WT) : WTX := fun ρ Φ _ => w ρ Φ
theorem mtx_t (h : MT X e tt wt) : MTX X ξ e tt (xT wt) := ⟨h.pt, fun EX G H σ ρ Φ Θ R f hx Q q => h.so EX G H σ ρ Φ R f Q q⟩
/-! arguments -/
def xA (w : WA) : WAX := fun ρ Φ _ => w ρ Φ
theorem max_a (h : MA X es tA wA) : MAX X ξ es tA (xA wA) := ⟨h.pa, fun EX G H σ ρ Φ Θ R f hx Q q => h.so EX G H σ ρ Φ R f Q q⟩
def xCons (w : WEX) (u : WAX) : WAX := fun ρ Φ Θ => w ρ (fun r => u ρ (fun rs => Φ (r :: rs)) Θ) Θ
theorem max_cons (h : MEX X ξ e t u) (h2 : MAX X ξ es tA uA) (hs : starEach (e :: es) X.env = (false, eval e X.env) :: starEach es X.env := by rfl) : MAX X ξ (e :: es) (tCons t tA) (xCons u uA) := ⟨pa_cons h.pe h2.pa hs, fun EX G H σ ρ Φ Θ R f hx Q q =>
  h.so EX G H σ ρ _ Θ R f hx _ fun v G1 H1 r S1 rv f1 => h2.so EX G1 H1 σ ρ _ Θ (R.step S1) f1 (ex_step hx S1) _ fun vs G2 H2 rs S2 rvs f2 =>
    q (v :: vs) G2 H2 (r :: rs) (S1.trans S2) (.cons (rwMono S2.gg (fun _ _ h => h) rv) rvs) f2⟩
/-! displays -/
def xTup (uA : WAX) : WEX := fun ρ Φ Θ => uA ρ (fun rs => datsW rs fun ds => Φ (.d (.tuple ds))) Θ
theorem mex_tup {k : Nat} (h : MAX X ξ es tA uA) : MEX X ξ (.Tuple es k pos) (tTup tA) (xTup uA) := ⟨pe_tup h.pa, fun EX G H σ ρ Φ Θ R f hx Q q =>
  h.so EX G H σ ρ _ Θ R f hx _ fun vs G1 H1 rs S1 rvs f1 => by
    obtain ⟨ds, e, hl, f2⟩ := datsW_iff f1
    have dd := dats_dd rvs e
    refine ⟨le_line (by rw [dpLen dd]; exact hl), fun p hp => ?_⟩
    have S2 := (R.toGd.step S1).new (p := p) (o := .tup vs) hp
    exact q (.ref p) _ _ (.d (.tuple ds)) (S1.trans S2) (Dd.tup upd_same (dpsMono S2.gg _ _ dd)) f2⟩
def xLst (uA : WAX) : WDX := fun ρ Φ Θ => uA ρ (fun rs => datsW rs Φ) Θ
theorem mlx_lst (h : MAX X ξ es tA uA) : MLX X ξ (.List es pos) (tLst tA) (xLst uA) := ⟨pe_lst h.pa, fun EX G H σ ρ Φ Θ R f hx Q q =>
  h.so EX G H σ ρ _ Θ R f hx _ fun vs G1 H1 rs S1 rvs f1 => by
    obtain ⟨ds, e, hl, f2⟩ := datsW_iff f1
    have dd := dats_dd rvs e
    refine ⟨le_line (by rw [dpLen dd]; exact hl), fun p hp => ?_⟩
    have R1 := R.toGd.step S1
    exact q p vs _ _ _ (S1.trans (R1.newOut hp)) (S1.fresh hp) (R1.free hp) (R1.notBox hp) upd_same dd f2⟩
def xFz (w : WDX) : WEX := fun ρ Φ Θ => w ρ (fun ds => Φ (.d (.list ds))) Θ
theorem mex_fz {w : WDX} (h : MLX X ξ e t w) : MEX X ξ e t (xFz w) := ⟨h.pe, fun EX G H σ ρ Φ Θ R f hx Q q =>
  h.so EX G H σ ρ _ Θ R f hx _ fun a vs G1 H1 ds S1 ha ga ba h1 dd f1 => by
    have R2 := (R.toGd.step S1).still h1 ba ga
    refine q (.ref a) (upd G1 a (.lst vs)) H1 (.d (.list ds)) ⟨S1.st, S1.bx, S1.gg.trans (same_upd_new ga), R2.sub, fun b o e => ?_, R2.ex⟩ (Dd.lst upd_same (dpsMono (same_upd_new ga) _ _ dd)) f1
    by_cases eb : b = a
    · subst eb; exact .inr ha
    · rw [upd_ne eb] at e; exact S1.gn b o e⟩
/-! operators, comparisons, items -/
def xOp (f : F2) (wa wb : WEX) : WEX := fun ρ Φ Θ => wa ρ (fun x => wb ρ (fun y => f x y Φ) Θ) Θ
theorem so_opX {K : PySem.W.Frag} {r : R2} {f : F2} (hf : OpS K r f) (ha : SoEX K ξ ta ua) (hb : SoEX K ξ tb ub) : SoEX K ξ (tOp r ta tb) (xOp f ua ub) := fun EX G H σ ρ Φ Θ R f hx Q q =>
  ha EX G H σ ρ _ Θ R f hx _ fun v G1 H1 x S1 rv f1 => hb EX G1 H1 σ ρ _ Θ (R.step S1) f1 (ex_step hx S1) _ fun u G2 H2 y S2 ru f2 =>
    hf EX G2 H2 v u x y Φ ((R.step S1).step S2).toGd (rwMono S2.gg (fun _ _ h => h) rv) ru f2 Q fun z G3 H3 c S3 rc f3 => q z G3 H3 c ((S1.trans S2).trans S3) rc f3
theorem mex_op {op : Operator} {r : R2} {f : F2} (h : OpM X (binaryOp op) r f) (ha : MEX X ξ a ta ua) (hb : MEX X ξ b tb ub) : MEX X ξ (.BinOp a op b pos) (tOp r ta tb) (xOp f ua ub) := ⟨pe_op h.op ha.pe hb.pe, so_opX h.so ha.so hb.so⟩
theorem mex_cmp {op : CmpOp} {r : R2} {f : F2} (h : OpM X (compareOp op) r f) (ha : MEX X ξ a ta ua) (hb : MEX X ξ b tb ub) (hm : behindInMarks op b = false := by first | exact nobehind _ (by decide) (by decide) | rfl) :
    MEX X ξ (.Compare a [op] [b] pos) (tOp r ta tb) (xOp f ua ub) := ⟨pe_cmpR h.op ha.pe hb.pe hm, so_opX h.so ha.so hb.so⟩
theorem mex_ix (ha : MEX X ξ a ta ua) (hb : MEX X ξ b tb ub) (hs : PlainIx b := by exact fun _ _ => rfl) : MEX X ξ (.Subscript a b pos) (tOp (rIx X.K) ta tb) (xOp oIx ua ub) := ⟨pe_ix ix_seq ha.pe hb.pe hs, so_opX os_ix ha.so hb.so⟩
def xB (w : WEX) : WTX := fun ρ Φ Θ => w ρ (fun r => match r with
  | .d (.bool k) => Φ k
  | _ => False) Θ
theorem so_BX {K : PySem.W.Frag} (h : SoEX K ξ t u) : SoTX K ξ (fun σ H Q => t σ H fun x H1 => ∃ c, x = .bl c ∧ Q c H1) (xB u) := fun EX G H σ ρ Φ Θ R f hx Q q =>
  h EX G H σ ρ _ Θ R f hx _ fun v G1 H1 r S1 rv f1 => by
    obtain ⟨k, e, f2⟩ := boolOf f1
    subst e
    exact ⟨k, rwBool rv, q k G1 H1 S1 f2⟩
theorem mtx_cmp {op : CmpOp} {r : R2} {f : F2} (h : OpM X (compareOp op) r f) (ha : MEX X ξ a ta ua) (hb : MEX X ξ b tb ub) (hm : behindInMarks op b = false := by first | exact nobehind _ (by decide) (by decide) | rfl) :
    MTX X ξ (.Compare a [op] [b] pos) (tTest (tOp r ta tb)) (xB (xOp f ua ub)) := ⟨pt_cmpR h.op ha.pe hb.pe hm, so_BX (so_opX h.so ha.so hb.so)⟩
theorem mtx_val (h : MEX X ξ e t u) (he : ∀ whole, isTrue e X.env whole = (do let v ← whole; standAt e.pos; holding [v] (truthy v)) := by intro _; rfl) : MTX X ξ e (tB t) (xB u) := ⟨pt_val h.pe he, so_BX h.so⟩
def xNot (u : WTX) : WTX := fun ρ Φ Θ => u ρ (fun k => Φ (!k)) Θ
theorem mtx_not (h : MTX X ξ a tt ut) : MTX X ξ (.UnaryOp .Not a pos) (tNot tt) (xNot ut) := ⟨pt_not h.pt, fun EX G H σ ρ Φ Θ R f hx Q q => h.so EX G H σ ρ _ Θ R f hx _ fun k G1 H1 S1 f1 => q (!k) G1 H1 S1 f1⟩
def xAnd (u v : WTX) : WTX := fun ρ Φ Θ => u ρ (fun k => if k = true then v ρ Φ Θ else Φ false) Θ
def xOr (u v : WTX) : WTX := fun ρ Φ Θ => u ρ (fun k => if k = true then Φ true else v ρ Φ Θ) Θ
theorem so_andX {K : PySem.W.Frag} (h : SoTX K ξ tt ut) (h2 : SoTX K ξ tu uv) : SoTX K ξ (tAnd tt tu) (xAnd ut uv) := fun EX G H σ ρ Φ Θ R f hx Q q =>
  h EX G H σ ρ _ Θ R f hx _ fun k G1 H1 S1 f1 => by
    cases k with
    | true =>
      simp only [if_true] at f1 ⊢
      exact h2 EX G1 H1 σ ρ _ Θ (R.step S1) f1 (ex_step hx S1) _ fun j G2 H2 S2 f2 => q j G2 H2 (S1.trans S2) f2
    | false =>
      simp only [Bool.false_eq_true, if_false] at f1 ⊢
      exact q false G1 H1 S1 f1
theorem so_orX {K : PySem.W.Frag} (h : SoTX K ξ tt ut) (h2 : SoTX K ξ tu uv) : SoTX K ξ (tOr tt tu) (xOr ut uv) := fun EX G H σ ρ Φ Θ R f hx Q q =>
  h EX G H σ ρ _ Θ R f hx _ fun k G1 H1 S1 f1 => by
    cases k with
    | true =>
      simp only [if_true] at f1 ⊢
      exact q true G1 H1 S1 f1
    | false =>
      simp only [Bool.false_eq_true, if_false] at f1 ⊢
      exact h2 EX G1 H1 σ ρ _ Θ (R.step S1) f1 (ex_step hx S1) _ fun j G2 H2 S2 f2 => q j G2 H2 (S1.trans S2) f2
theorem mtx_w (h : MWX X ξ e tt ut) : MTX X ξ e tt ut := ⟨h.pw.pt, h.so⟩
theorem mwx_and1 (h : MTX X ξ a tt ut) : MWX X ξ (.BoolOp .And [a] pos) tt ut := ⟨pw_and1 h.pt, h.so⟩
theorem mwx_or1 (h : MTX X ξ a tt ut) : MWX X ξ (.BoolOp .Or [a] pos) tt ut := ⟨pw_or1 h.pt, h.so⟩
theorem mwx_and (h : MTX X ξ a tt ut) (h2 : MWX X ξ (.BoolOp .And (b :: rest) pos) tu uv) : MWX X ξ (.BoolOp .And (a :: b :: rest) pos) (tAnd tt tu) (xAnd ut uv) := ⟨pw_and h.pt h2.pw, so_andX h.so h2.so⟩
theorem mwx_or (h : MTX X ξ a tt ut) (h2 : MWX X ξ (.BoolOp .Or (b :: rest) pos) tu uv) : MWX X ξ (.BoolOp .Or (a :: b :: rest) pos) (tOr tt tu) (xOr ut uv) := ⟨pw_or h.pt h2.pw, so_orX h.so h2.so⟩
/-! slices with given bounds -/
def xSl (w : WEX) (u v : WP) : WEX := fun ρ Φ Θ => w ρ (fun r => u ρ fun lo => v ρ fun hi => oSl r lo hi Φ) Θ
/-! built-in calls -/
def xCB (f : FA) (uA : WAX) : WEX := fun ρ Φ Θ => uA ρ (fun ws => f ws Φ) Θ
theorem so_cbX {K : PySem.W.Frag} {r : List V → Hp → VK → Prop} {f : FA} (hf : CallS K r f) (h : SoAX K ξ tA uA) : SoEX K ξ (tCB r tA) (xCB f uA) := fun EX G H σ ρ Φ Θ R g hx Q q => h EX G H σ ρ _ Θ R g hx _ fun vs G1 H1 rs S1 rv f1 =>
  hf EX G1 H1 vs rs Φ (R.step S1).toGd rv f1 Q fun v G2 H2 r S2 rr f2 => q v G2 H2 r (S1.trans S2) rr f2
theorem mex_callB {id : String} {x : Str} {r : List V → Hp → VK → Prop} {f : FA} (hc : CallM X (.builtin id) r f) (hm : X.mg x = none) (hg : Gl X x := by rfl) (hv : bootBuiltins x = some (.builtin id) := by decide +kernel) (ha : MAX X ξ (e :: es) tA uA)
    (hs : starEach (e :: es) X.env = (false, eval e X.env) :: starEach es X.env := by rfl) (hpl : (backTo pos (starEach es X.env)).any (·.1) = false := by rfl) (hn : x ≠ Str.ofString "__name__" := by decide) (hd : (x == ("__debug__" : Str)) = false := by decide) :
    MEX X ξ (.Call (.Name x p) (e :: es) [] pos) (tCB r tA) (xCB f uA) := ⟨pe_callB hc.op hg hm hv ha.pa (hn := hn) (hdb := hd) (he := hs) (hpl := hpl), so_cbX hc.so ha.so⟩
theorem mex_callT {T : String} {x : Str} {r : List V → Hp → VK → Prop} {f : FA} (hc : CallM X (.type T) r f) (hm : X.mg x = none) (hg : Gl X x := by rfl) (hv : bootBuiltins x = some (.type T) := by decide +kernel) (ha : MAX X ξ (e :: es) tA uA)
    (hs : starEach (e :: es) X.env = (false, eval e X.env) :: starEach es X.env := by rfl) (hpl : (backTo pos (starEach es X.env)).any (·.1) = false := by rfl) (hn : x ≠ Str.ofString "__name__" := by decide) (hd : (x == ("__debug__" : Str)) = false := by decide) :
    MEX X ξ (.Call (.Name x p) (e :: es) [] pos) (tCB r tA) (xCB f uA) := ⟨pe_callTy hc.op hg hm hv ha.pa (hn := hn) (hdb := hd) (he := hs) (hpl := hpl), so_cbX hc.so ha.so⟩
/-! slices -/
theorem os_slM {K : PySem.W.Frag} {EX : Ext} {G H : Hp} {v : V} {r : W} {l h : Option Int} {Φ : W → Prop} {Q : VK} (R : Gd K EX G H) (rv : Rw K EX G v r) (f : oSl r l h Φ) (q : ∀ v G' H' r, Step EX G H G' H' → Rw K EX G' v r → Φ r → Q v H') : rSlM K v l h H Q := by
  unfold oSl at f
  split at f
  · obtain ⟨a, vs, e1, g, dd⟩ := rwLst rv
    refine .inl ⟨a, vs, e1, .inl (.inl (R.sub _ _ g)), fun p hp => ?_⟩
    have S4 := R.new (p := p) (o := .lst (cutV vs l h)) hp
    exact q _ _ _ (.d (.list _)) S4 (Dd.lst upd_same (dpsMono S4.gg _ _ (dpCut dd l h))) f
  · obtain ⟨a, vs, e1, g, dd⟩ := rwTup rv
    refine .inr (.inl ⟨a, vs, e1, .inl (.inl (R.sub _ _ g)), fun c => ?_, fun _ p hp => ?_⟩)
    · refine q _ _ _ (.d (.tuple _)) R.refl (Dd.tup g ?_) f
      have z := dpCut dd l h
      rw [cut_all c] at z
      exact z
    · have S4 := R.new (p := p) (o := .tup (cutV vs l h)) hp
      exact q _ _ _ (.d (.tuple _)) S4 (Dd.tup upd_same (dpsMono S4.gg _ _ (dpCut dd l h))) f
  · obtain ⟨e1, so⟩ := rwStr rv
    exact .inr (.inr ⟨_, e1, so.len, q _ _ _ (.d (.str _)) R.refl (Dd.str _ (sok_cut so l h)) f⟩)
  · exact f.elim
theorem mex_slice {lo hi : Option Expr} {tl th : TO} {ul uh : WP} {p2 : Pos} (h : MEX X ξ e t u) (hl : MP X lo tl ul) (hh : MP X hi th uh) : MEX X ξ (.Subscript e (.Slice lo hi none p2) pos) (tSl (rSlM X.K) t tl th) (xSl u ul uh) :=
  ⟨pe_slice (sl_list.or (sl_tupA.or sl_str)) h.pe hl.po hh.po, fun EX G H σ ρ Φ Θ R f hx Q q =>
    h.so EX G H σ ρ _ Θ R f hx _ fun v G1 H1 r S1 rv f1 => hl.so EX G1 H1 σ ρ _ (R.step S1) f1 _ fun l G2 H2 S2 f2 => hh.so EX G2 H2 σ ρ _ ((R.step S1).step S2) f2 _ fun n G3 H3 S3 f3 =>
      os_slM (((R.step S1).step S2).step S3).toGd (rwMono (S2.trans S3).gg (fun _ _ h => h) rv) f3 fun v G4 H4 r S4 rr f4 => q v G4 H4 r (((S1.trans S2).trans S3).trans S4) rr f4⟩
/-! a call of a def that raises nothing -/
def xCallD (F : FW) (uA : WAX) : WEX := fun ρ Φ Θ => uA ρ (fun ws => F ws (dOnly Φ)) Θ
theorem mex_callD {x : Str} {k n : Nat} {F : FW} (c : Cl X.prog X.w X.K X.mg X.base k x n F) (hr : Room k X.A) (hgd : X.A.guards = some []) (hl : ∀ ws Φ, F ws Φ → ws.length = n) (ha : MAX X ξ (e :: es) tA uA) (hg : Gl X x := by rfl) (hdb : (x == ("__debug__" : Str)) = false := by decide)
    (he : starEach (e :: es) X.env = (false, eval e X.env) :: starEach es X.env := by rfl) (hpl : (backTo pos (starEach es X.env)).any (·.1) = false := by rfl) : MEX X ξ (.Call (.Name x p) (e :: es) [] pos) (tCallD X.K n F tA) (xCallD F uA) :=
  ⟨pe_callD c hr hgd hg ha.pa hdb he hpl, fun EX G H σ ρ Φ Θ R f hx Q q => ha.so EX G H σ ρ _ Θ R f hx _ fun vs G1 H1 ws S1 rv f1 => by
    refine ⟨(Paired.length rv).trans (hl _ _ f1), EX, G1, ws, _, R.toGd.step S1, rv, f1, fun EX' G' H' v r S2 R2 rr fr => ?_⟩
    have S12 := S1.trans (spD_step S2 R2)
    unfold dOnly at fr
    split at fr
    · exact q v G' H' (.d _) S12 rr fr
    · exact q v G' H' (.dk _) S12 rr fr
    · exact q v G' H' (.dt _) S12 rr fr
    · exact fr.elim⟩
end

/-! ### defs that may raise -/
def SpX (K : PySem.W.Frag) (mg : Str → Option Value) (n : Nat) (F : FX) (vs : List V) (H : Hp) (Q : VK) (E : XK) : Prop := vs.length = n ∧ ∃ (EX : Ext) (G : Hp) (ws : List W) (Φ : W → Prop) (Θ : Xn → Prop), Gd K EX G H ∧ RwAll K EX G vs ws ∧ F ws Φ Θ ∧
  (∀ EX' G' H' v r, SStep EX (fun _ => False) G H EX' G' H' → Gd K EX' G' H' → Rw K EX' G' v r → Φ r → Q v H') ∧
  ∀ EX' G' H' cls d x, SStep EX (fun _ => False) G H EX' G' H' → Gd K EX' G' H' → RwX K mg G' cls d x → Θ x → E cls d H'
structure FnX (P : Program) (w : World) (K : PySem.W.Frag) (mg : Str → Option Value) (base : Heap) (k : Nat) (f : Addr) (fd : FuncData) (ps : List Str) (F : FX) : Prop where
  run : ∀ (A : Around) (outer : List Env) (s : Shared) (H : Hp) (args : Args) (us : List Value) (vs : List V) (Q : VK) (E : XK), Room k A → A.guards = some [] → Env0 P w K mg base A outer s H → BindsTo s fd args (ps.zip us) → Vals vs us →
    SpX K mg ps.length F vs H Q E → codeAny (model P w) A (.call (.ref f) args) (CR (L2N.CX P w) outer P w H s Q E) s
theorem FnX.mono {P : Program} {w : World} {K : PySem.W.Frag} {mg : Str → Option Value} {base : Heap} {j k : Nat} {f : Addr} {fd : FuncData} {ps : List Str} {F : FX} (h : FnX P w K mg base j f fd ps F) (l : j ≤ k) : FnX P w K mg base k f fd ps F :=
  ⟨fun A outer s H args us vs Q E hr hg => h.run A outer s H args us vs Q E (hr.mono l) hg⟩
theorem FnX.imp {P : Program} {w : World} {K : PySem.W.Frag} {mg : Str → Option Value} {base : Heap} {k : Nat} {f : Addr} {fd : FuncData} {ps : List Str} {F F' : FX} (h : FnX P w K mg base k f fd ps F) (l : ∀ ws Φ Θ, F' ws Φ Θ → F ws Φ Θ) : FnX P w K mg base k f fd ps F' :=
  ⟨fun A outer s H args us vs Q E hr hg e b v ⟨q1, EX, G, ws, Φ, Θ, q2, q3, q4, q5⟩ => h.run A outer s H args us vs Q E hr hg e b v ⟨q1, EX, G, ws, Φ, Θ, q2, q3, l _ _ _ q4, q5⟩⟩
section
variable {P : Program} {w : World} {K : PySem.W.Frag} {mg : Str → Option Value} {base : Heap}
theorem start_s {EX EX' : Ext} {G H G' H' : Hp} {O : Addr → Prop} (noOwn : ∀ b, ¬ O b) (S : SStep EX O G H EX' G' H') : SStep EX (fun _ => False) G H EX' G' H' :=
  ⟨fun b o q => (S.st b o q).imp _root_.id fun z => .inr (z.resolve_left (noOwn b)), S.bb, fun b q => (S.bn b q).imp _root_.id fun z => .inl (z.resolve_right (noOwn b)), S.gg, fun b o q => (S.gn b o q).imp _root_.id fun z => .inl (z.resolve_right (noOwn b))⟩
/-- a def that may raise, by its body -/
theorem fn_x {x qual : Str} {st : Stmt} {f : Addr} {fd : FuncData} {N ps : List Str} {k : Nat} {F : FX} (FN : Fun K x qual st f fd) (S : FnScope N ps (defScope st))
    (hbody : ∀ (cdv : Value) (A : Around) (outer : List Env) (s : Shared) (H : Hp) (E : XK), Room k (A.deeper (envOfC qual (defScope st) s.heap.objs.size f cdv)) → (A.deeper (envOfC qual (defScope st) s.heap.objs.size f cdv)).guards = some [] →
      ∃ (t : TS) (u : WS), MSs (cxOf (L2N.CX P w) P w K mg base N qual (defScope st) f cdv A outer s H E) (xiW K mg fun cls d _ H => E cls d H) (defBody st) t u ∧ ∀ ws Φ Θ, F ws Φ Θ → u (startR N ws) ⟨fun _ => Φ (.d .none), Φ, fun _ => False, fun _ => False, fun x _ => Θ x⟩) :
    FnX P w K mg base (k + 1) f fd ps F := by
  obtain ⟨oc, od, kV, doc, pm, an, cdv, ct, osl, rfl, lk, hcd⟩ := FN.ex
  constructor
  intro A outer s H args us vs Q E hr hg e0 hb r ⟨hl, EX, G, ws, Φ, Θ, gd, rw0, hF, hQ, hX⟩
  have kin : K.In s.heap := e0.mod.kin.keeps fun b o e => (e0.bs b o e).1
  have nolim : s.heap.NoLimit := e0.mod.nolimit.keeps fun b o e => (e0.bs b o e).1
  obtain ⟨t, u, hM, hW⟩ := hbody cdv A outer s H E (hr.deeper _) hg
  obtain ⟨R0, noOwn⟩ := startR_rel (N := N) gd rw0
  have hq : t { nx := fun _ H' => Q .non H', rt := Q } (L2.start N vs) H := by
    refine hM.so EX G H _ _ _ R0 (hW ws Φ Θ hF) _ ⟨fun EX' G' H' σ' ρ' S1 R1 o1 f1 => ?_, fun _ _ _ _ _ _ _ _ f1 => f1.elim, fun _ _ _ _ _ _ _ _ f1 => f1.elim, fun EX' G' H' v r' S1 R1 rv f1 => ?_, fun EX' G' H' σ' ρ' x S1 R1 o1 f1 cls d rx => ?_⟩
    · exact hQ EX' G' H' .non (.d .none) (start_s noOwn S1) R1.toGd Dd.non f1
    · exact hQ EX' G' H' v r' (start_s noOwn S1) R1 rv f1
    · exact hX EX' G' H' cls d x (start_s noOwn S1) R1.toGd rx f1
  have par : ∀ y ∈ ps.zip us, (defScope st).names.lookup y.1 = some .local ∨ ((defScope st).names.lookup y.1 = some .cell ∧ ((cellsFrom (s.heap.objs.size + 1) (defScope st).names []).lookup y.1).isSome = true) := by
    rintro ⟨n, v⟩ hy
    exact (S.par n (List.of_mem_zip hy).1).imp _root_.id fun q => ⟨q, PySem.W.cellsFrom_some _ _ _ (.inl q)⟩
  refine codeAny_call_function hr.depth (kin _ _ lk) rfl S.co S.gen rfl (PySem.W.codeRec_of kin hcd) (hb _ _ _ _ ?_)
  refine wpAny_newFunctionEnv_cells S.kind par fun env he s1 x1 => ?_
  subst he
  refine ⟨nolim.keeps x1.toInCall.keep, codeAny_func ?_⟩
  have I0 := inv_start (CX := L2N.CX P w) (E := E) (cd := cdv) (f := f) (qual := qual) (w := w) S hr.hd e0 hl r x1
  refine wpAny_mono (hM.ps.run [] s1 _ H _ I0 hq) (fun fl s' hs => ?_) fun _ _ hs => hs
  cases fl with
  | next =>
    obtain ⟨σ', H', J, q⟩ := hs
    exact ⟨.non, H', J.os, J.bare, J.base, J.hok, rfl, q⟩
  | ret u =>
    obtain ⟨v, σ', H', J, rv, q⟩ := hs
    exact ⟨v, H', J.os, J.bare, J.base, J.hok, rv, q⟩
  | brk => obtain ⟨_, _, _, q⟩ := hs; exact q.elim
  | cont => obtain ⟨_, _, _, q⟩ := hs; exact q.elim
/-- a def that may be called by its name, and may raise -/
structure Clx (P : Program) (w : World) (K : PySem.W.Frag) (mg : Str → Option Value) (base : Heap) (k : Nat) (x : Str) (n : Nat) (F : FX) : Prop where
  ex : ∃ (f : Addr) (fd : FuncData) (ps : List Str), ps.length = n ∧ FnX P w K mg base k f fd ps F ∧ mg x = some (.ref f) ∧ PySem.W.keepIn K (.ref f) = true ∧ Binds K fd ps []
theorem Clx.mono {j k n : Nat} {x : Str} {F : FX} (c : Clx P w K mg base j x n F) (l : j ≤ k) : Clx P w K mg base k x n F := by
  obtain ⟨f, fd, ps, h1, h2, h3⟩ := c.ex
  exact ⟨f, fd, ps, h1, h2.mono l, h3⟩
theorem Clx.imp {k n : Nat} {x : Str} {F F' : FX} (c : Clx P w K mg base k x n F) (l : ∀ ws Φ Θ, F' ws Φ Θ → F ws Φ Θ) : Clx P w K mg base k x n F' := by
  obtain ⟨f, fd, ps, h1, h2, h3⟩ := c.ex
  exact ⟨f, fd, ps, h1, h2.imp l, h3⟩
theorem Df.clx {x : Str} {st : Stmt} {N ps : List Str} {k : Nat} {F : FX} (d : Df K mg x st ps) (S : FnScope N ps (defScope st))
    (hbody : ∀ (f : Addr) (cdv : Value) (A : Around) (outer : List Env) (s : Shared) (H : Hp) (E : XK), Room k (A.deeper (envOfC x (defScope st) s.heap.objs.size f cdv)) → (A.deeper (envOfC x (defScope st) s.heap.objs.size f cdv)).guards = some [] →
      ∃ (t : TS) (u : WS), MSs (cxOf (L2N.CX P w) P w K mg base N x (defScope st) f cdv A outer s H E) (xiW K mg fun cls d _ H => E cls d H) (defBody st) t u ∧ ∀ ws Φ Θ, F ws Φ Θ → u (startR N ws) ⟨fun _ => Φ (.d .none), Φ, fun _ => False, fun _ => False, fun x _ => Θ x⟩) :
    Clx P w K mg base (k + 1) x ps.length F := by
  obtain ⟨f, fd, h1, h2, h3⟩ := d.ex
  exact ⟨f, fd, ps, rfl, fn_x h1 S (hbody f), h2, h1.kp, h3⟩
end

/-! ### a call that may raise -/
section
variable {X : Cx} {x : Str} {k n : Nat} {F : FX} {e : Expr} {es : List Expr} {tA : TA} {uA : WAX} {wA : WA} {p pos : Pos} {Wx : WX}
def tCallX (K : PySem.W.Frag) (mg : Str → Option Value) (n : Nat) (F : FX) (Wx : WX) (t : TA) : TE := fun σ H Q => t σ H fun vs H1 => SpX K mg n F vs H1 Q fun cls d H' => Wx cls d σ H'
theorem pe_callX (c : Clx X.prog X.w X.K X.mg X.base k x n F) (tk : L2N.Takes X Wx) (hr : Room k X.A) (hgd : X.A.guards = some []) (hg : Gl X x) (ha : PA X (e :: es) tA) (hdb : (x == ("__debug__" : Str)) = false)
    (he : starEach (e :: es) X.env = (false, eval e X.env) :: starEach es X.env) (hpl : (backTo pos (starEach es X.env)).any (·.1) = false) : PE X (.Call (.Name x p) (e :: es) [] pos) (tCallX X.K X.mg n F Wx tA) := by
  obtain ⟨f, fd, ps, hn, hF, hm, hk, hb⟩ := c.ex
  subst hn
  constructor
  intro pins s σ H Q I h
  refine wpAny_Call_Name_kw (ld_glob I hg hm ?_ hdb)
  refine PySem.W.callWith_K (h₀ := X.base) I.ok.mod.kin hk (thn (ha.run pos pins s σ H _ I h) fun us s1 ⟨vs, H1, I1, r, q⟩ => ⟨I1.kIn, wpAny_call ?_⟩) he hpl
  have hlen : (us ++ []).length = ps.length := by rw [List.append_nil, ← r.length]; exact q.1
  have hbb := hb s1 us I1.kIn hlen
  rw [List.append_nil] at hbb
  refine codeAny_mono (hF.run X.A X.stack s1 H1 ⟨us, []⟩ us vs Q _ hr hgd I1.env0 hbb r q) fun res s' hq => ?_
  match res, hq with
  | .ok (.ret u), hq => exact I1.after hq
  | .error er, hq => exact L2N.passAt tk σ pins H1 s1 er s' I1 hq
def xCallX (F : FX) (uA : WAX) : WEX := fun ρ Φ Θ => uA ρ (fun ws => F ws (dOnly Φ) Θ) Θ
theorem mex_callX (c : Clx X.prog X.w X.K X.mg X.base k x n F) (tk : L2N.Takes X Wx) (hr : Room k X.A) (hgd : X.A.guards = some []) (hl : ∀ ws Φ Θ, F ws Φ Θ → ws.length = n) (ha : MAX X (xiW X.K X.mg Wx) (e :: es) tA uA) (hg : Gl X x := by rfl)
    (hdb : (x == ("__debug__" : Str)) = false := by decide) (he : starEach (e :: es) X.env = (false, eval e X.env) :: starEach es X.env := by rfl) (hpl : (backTo pos (starEach es X.env)).any (·.1) = false := by rfl) :
    MEX X (xiW X.K X.mg Wx) (.Call (.Name x p) (e :: es) [] pos) (tCallX X.K X.mg n F Wx tA) (xCallX F uA) :=
  ⟨pe_callX c tk hr hgd hg ha.pa hdb he hpl, fun EX G H σ ρ Φ Θ R f hx Q q => ha.so EX G H σ ρ _ Θ R f hx _ fun vs G1 H1 ws S1 rv f1 => by
    refine ⟨(Paired.length rv).trans (hl _ _ _ f1), EX, G1, ws, _, Θ, R.toGd.step S1, rv, f1, fun EX' G' H' v r S2 R2 rr fr => ?_, fun EX' G' H' cls d x S2 R2 rx fx => ?_⟩
    · have S12 := S1.trans (spD_step S2 R2)
      unfold dOnly at fr
      split at fr
      · exact q v G' H' (.d _) S12 rr fr
      · exact q v G' H' (.dk _) S12 rr fr
      · exact q v G' H' (.dt _) S12 rr fr
      · exact fr.elim
    · exact hx G' H' x (S1.trans (spD_step S2 R2)) fx cls d rx⟩
end

/-! ### statements -/
section
variable {X : Cx} {e : Expr} {te : TE} {ue : WEX} {pos : Pos}
theorem ex_of {K : PySem.W.Frag} {EX : Ext} {G H : Hp} {σ : L2.St} {ρ : Rh} {P : Ps} {D : Ends} (E : EndsOk K ξ EX (Own σ ρ) G H P D) (R : Rel K EX G H σ ρ) : ∀ G' H' x, Step EX G H G' H' → P.ex x ρ → ξ x σ G' H' := fun G' H' x S q =>
  E.ex EX G' H' σ ρ x S.s (R.step S) (fun _ h => .inl h) q
def xRet (ue : WEX) : WS := fun ρ P => ue ρ P.rt fun x => P.ex x ρ
theorem msx_ret (h : MEX X ξ e te ue) : MS X ξ (.Return (some e) pos) (tRet te) (xRet ue) := ⟨ps_ret h.pe, fun EX G H σ ρ P R f D E => h.so EX G H σ ρ _ _ R f (ex_of E R) _ fun v G1 H1 r S rv f1 => E.rt EX G1 H1 v r S.s (R.toGd.step S) rv f1⟩
def xDrop (ue : WEX) : WS := fun ρ P => ue ρ (fun _ => P.nx ρ) fun x => P.ex x ρ
theorem msx_expr (h : MEX X ξ e te ue) (hs : swapsWith e none pos.line X.env = pure false := by rfl) : MS X ξ (.Expr e pos) (tDrop te) (xDrop ue) := ⟨ps_expr h.pe hs, fun EX G H σ ρ P R f D E => h.so EX G H σ ρ _ _ R f (ex_of E R) _ fun v G1 H1 r S rv f1 =>
  E.nx EX G1 H1 σ ρ S.s (R.step S) (fun _ h => .inl h) f1⟩
def xIfS (c : WTX) (w v : WS) : WS := fun ρ P => c ρ (fun k => if k = true then w ρ P else v ρ P) fun x => P.ex x ρ
theorem msx_if {c : Expr} {a b : List Stmt} {tc : TT} {uc : WTX} {t u : TS} {w v : WS} (hc : MTX X ξ c tc uc) (ha : MSs X ξ a t w) (hb : MSs X ξ b u v) : MS X ξ (.If c a b pos) (tIfS tc t u) (xIfS uc w v) := ⟨ps_if hc.pt ha.ps hb.ps, fun EX G H σ ρ P R f D E =>
  hc.so EX G H σ ρ _ _ R f (ex_of E R) _ fun k G1 H1 S f1 => by
    cases k with
    | true =>
      simp only [if_true] at f1 ⊢
      exact ha.so EX G1 H1 σ ρ P (R.step S) f1 D (E.step R.toGd S)
    | false =>
      simp only [Bool.false_eq_true, if_false] at f1 ⊢
      exact hb.so EX G1 H1 σ ρ P (R.step S) f1 D (E.step R.toGd S)⟩
def xSet (i : Nat) (ue : WEX) : WS := fun ρ P => ue ρ (fun r => P.nx (ρ.set i (.sh r))) fun x => P.ex x ρ
theorem msx_set (i : Nat) {x : Str} {pos' : Pos} (hN : X.N.Nodup) (he : MEX X ξ e te ue) (hi : X.N[i]? = some x := by rfl) (hx : Loc X.env.scope x := by first | exact Or.inl rfl | exact Or.inr rfl) (hs : swapsWith e (some (.Name x pos')) pos.line X.env = pure false := by rfl)
    (hf : X.fn x = true ∨ X.env.scope.names.lookup x = some .local := by first | exact .inl rfl | exact .inr rfl) : MS X ξ (.Assign [.Name x pos'] e pos) (tAsg te (gName i)) (xSet i ue) := ⟨ps_set hN hi hx he.pe hs hf, fun EX G H σ ρ P R f D E =>
  he.so EX G H σ ρ _ _ R f (ex_of E R) _ fun v G1 H1 r S rv f1 => E.nx EX G1 H1 _ _ S.s ((R.step S).set i rv) (fun b q => .inl (own_set q)) f1⟩
def xAsg (ue : WEX) (wg : WG) : WS := fun ρ P => ue ρ (fun r => wg r ρ P.nx) fun x => P.ex x ρ
theorem msx_asg {tg : Expr} {g : TG} {wg : WG} {sl : List Nat} (he : MEX X ξ e te ue) (hg : MG X tg g wg sl) (hs : swapsWithSole [tg] e pos.line X.env = pure false := by rfl) (hw : swappedStores [tg] e X.env = pure none := by rfl)
    (h1 : (assignEach [tg] X.env).map (·.2) = [assign tg X.env] := by rfl) : MS X ξ (.Assign [tg] e pos) (tAsg te g) (xAsg ue wg) := ⟨ps_asg he.pe hg.pg hs hw h1, fun EX G H σ ρ P R f D E =>
  he.so EX G H σ ρ _ _ R f (ex_of E R) _ fun v G1 H1 r S1 rv f1 => hg.so EX G1 H1 σ ρ v r _ (R.step S1) rv f1 _ fun σ' ρ' R' k f2 => E.nx EX G1 H1 σ' ρ' S1.s R' (fun b q => .inl (k.own b q)) f2⟩
/-- raise C(..) -/
def wRaise (c : Str) (fl : List Str) (wA : WA) : WS := fun ρ P => wA ρ fun ws => match dats ws with
  | some ds => ds.length = fl.length ∧ P.ex ⟨c, (fl.zip ds).reverse⟩ ρ
  | none => False
theorem fld_zip {K : PySem.W.Frag} {G : Hp} : ∀ {fl : List Str} {vs : List V} {ds : List D}, DdAll K G vs ds → FldD K G (fl.zip vs) (fl.zip ds)
  | [], _, _, _ => by simp only [List.zip_nil_left]; exact .nil
  | f :: fl, _, [], h => by
    cases h
    simp only [List.zip_nil_right]
    exact .nil
  | f :: fl, _, d :: ds, h => by
    cases h with
    | cons h1 h2 => exact .cons ⟨rfl, h1⟩ (fld_zip h2)
theorem paired_app {α β : Type} {R : α → β → Prop} : ∀ {xs xs' : List α} {ys ys' : List β}, Paired R xs ys → Paired R xs' ys' → Paired R (xs ++ xs') (ys ++ ys')
  | _, _, _, _, .nil, h => h
  | _, _, _, _, .cons h t, h' => .cons h (paired_app t h')
theorem paired_rev {α β : Type} {R : α → β → Prop} : ∀ {xs : List α} {ys : List β}, Paired R xs ys → Paired R xs.reverse ys.reverse
  | _, _, .nil => .nil
  | _, _, .cons h t => by
    rw [List.reverse_cons, List.reverse_cons]
    exact paired_app (paired_rev t) (.cons h .nil)
theorem ms_raise {c : Str} {fl : List Str} {es : List Expr} {tA : TA} {wA : WA} {p cp : Pos} {Wx : WX} {j : Nat} (o : Oe X.prog X.w X.K X.mg X.base c fl) (hr : Room (j + 2) X.A) (tk : L2N.Takes X Wx) (ha : MA X (e :: es) tA wA) (hc : X.calm = true := by rfl) (hg : Gl X c := by rfl)
    (hdb : (c == ("__debug__" : Str)) = false := by decide) (he : starEach (e :: es) X.env = (false, eval e X.env) :: starEach es X.env := by rfl) (hpl : (backTo cp (starEach es X.env)).any (·.1) = false := by rfl) :
    ∃ t, MS X (xiW X.K X.mg Wx) (.Raise (some (.Call (.Name c p) (e :: es) [] cp)) none pos) t (wRaise c fl wA) := by
  obtain ⟨C, fI, fd, ps, B, hm, T, iC, tI, F1, hb, hps, hfl, hne⟩ := o.ex
  refine ⟨_, L2N.ps_raise hc tk (pmk_x T iC tI F1 hr hb hps hfl hg hm ha.pa hdb he hpl), fun EX G H σ ρ P R f D E => ?_⟩
  refine ha.so EX G H σ ρ _ R f _ fun vs G1 H1 rs S1 rvs f1 => ?_
  split at f1
  · rename_i ds hd
    have dd := dats_dd rvs hd
    obtain ⟨hl, fx⟩ := f1
    refine ⟨by rw [dpLen dd]; exact hl, fun d hd => ?_⟩
    have S2 := (R.toGd.step S1).new (p := d) (o := .xd (fl.zip vs).reverse) hd
    exact E.ex EX _ _ σ ρ _ (S1.trans S2).s ((R.step S1).step S2) (fun _ h => .inl h) fx (.ref C) (some d) ⟨C, d, _, hm, rfl, rfl, upd_same, paired_rev (fld_zip (dpsMono S2.gg _ _ dd))⟩
  · exact f1.elim
end
end Pd
end

section
set_option Elab.async false
set_option linter.all false
set_option maxRecDepth 100000
set_option autoImplicit false
set_option maxHeartbeats 4000000
/-! Pd, try: several except clauses, each with or without a name -/
namespace Pd
open PySem PySem.Spec PyProof.Rows L2 PySem.PdX
/-- a clause: its class, its name's slot, its suite -/
structure Cls1 where
  c : Value
  i : Option Nat
  ts : Addr → Value → Option Addr → TS
def outEnds (i : Nat) (D : Ends) : Ends := { nx := fun σ H => D.nx (σ.set i none) H, rt := D.rt, bk := fun σ H => D.bk (σ.set i none) H, ct := fun σ H => D.ct (σ.set i none) H }
def wHs (K : PySem.W.Frag) (Wout : WX) (D : Ends) : List Cls1 → WX
  | [] => Wout
  | k :: r => fun cls d σ H => ∃ b, PySem.W.exmOne K cls k.c = some b ∧ (b = true → ∀ a, H a = none → match k.i with
      | none => k.ts a cls d D σ H
      | some i => k.ts a cls d (outEnds i D) (σ.set i (some (.ref a))) H) ∧ (b = false → wHs K Wout D r cls d σ H)
/-- the suites, walked -/
abbrev SuiteOk (X : Cx) (sts : List Stmt) (ts : Addr → Value → Option Addr → TS) : Prop := ∀ (a : Addr) (oe : Obj) (cls : Value) (d : Option Addr) (pn : List (Addr × Obj)), Zc cls d oe → (∃ vs, oe.data = .fields vs) → PSs (X.suite a ((a, oe) :: pn)) sts (ts a cls d)
inductive HdOk (X : Cx) : List ExceptHandler → List Cls1 → Prop
  | nil : HdOk X [] []
  | only {x : Str} {c : Value} {ts : Addr → Value → Option Addr → TS} {b : Stmt} {sts : List Stmt} {np pos : Pos} {hs : List ExceptHandler} {l : List Cls1} : Names X x c → SuiteOk X (b :: sts) ts → HdOk X hs l → HdOk X (.ExceptHandler (some (.Name x np)) none (b :: sts) pos :: hs) (⟨c, none, ts⟩ :: l)
  | as {x n : Str} {i : Nat} {c : Value} {ts : Addr → Value → Option Addr → TS} {b : Stmt} {sts : List Stmt} {np pos : Pos} {hs : List ExceptHandler} {l : List Cls1} : Names X x c → X.N[i]? = some n → X.env.kindOf n = some .local → SuiteOk X (b :: sts) ts → HdOk X hs l →
      HdOk X (.ExceptHandler (some (.Name x np)) (some n) (b :: sts) pos :: hs) (⟨c, some i, ts⟩ :: l)
section
variable {X : Cx} {pins : List (Addr × Obj)} {σ : L2.St} {H : Hp} {sI s' : Shared} {B h3 : Heap} {a : Addr} {cls : Value} {d : Option Addr} {D : Ends} {Wout : WX}
/-- how a suite's end comes back -/
theorem suite_back {oe : Obj} {pn : List (Addr × Obj)} {f : Flow} {s6 : Shared} (ok : X.Ok) (h : SP (X.suite a ((a, oe) :: (X.pn ++ pins))) [] D f s6) : SP X pins D f s6 := by
  cases f with
  | next => exact let ⟨σ6, H6, S6, q⟩ := h; ⟨σ6, H6, S6.unsuite ok, q⟩
  | brk => exact let ⟨σ6, H6, S6, q⟩ := h; ⟨σ6, H6, S6.unsuite ok, q⟩
  | cont => exact let ⟨σ6, H6, S6, q⟩ := h; ⟨σ6, H6, S6.unsuite ok, q⟩
  | ret u => exact let ⟨v, σ6, H6, S6, r, q⟩ := h; ⟨v, σ6, H6, S6.unsuite ok, r, q⟩
/-- the clauses, one after the other -/
theorem handled {hs : List ExceptHandler} {l : List Cls1} (hst : X.stack = X.env :: X.outer) (hf : X.env.frame = some X.env.locals) (hN : X.N.Nodup) (tk : Takes X Wout) (hk : HdOk X hs l)
    (J : Inv X pins σ H sI) (nb : ∀ b o, sI.heap.get? b = some o → b ∉ frs X.stack → B.get? b = some o) (up : sI.heap.UpToSlots h3) (fl : HandSPX.FlyingZ B (X.env :: X.outer) a (Zc cls d) h3) (na : H a = none) (os : s'.os = sI.os) (ag : AllBare s'.gens)
    (w : wHs X.K Wout D l cls d σ H) : wpAny (model X.prog X.w) X.A (handleBy (.ref a) X.env hs) (SP X pins D) X.xe { s' with heap := h3 } := by
  have ok := J.ok
  have J3 : Inv X pins σ H { s' with heap := h3 } := J.landed nb fl.1 up os ag
  obtain ⟨oe3, vs3, he3, hz3, hd3⟩ := fl.there
  have nfr : a ∉ frs (X.env :: X.outer) := fun hm => by
    obtain ⟨_, o', e', hnf⟩ := fl.2.2.1.mem hm
    rw [he3] at e'
    cases e'
    exact hnf _ hd3
  have nL : a ≠ X.env.locals := fun z => nfr (List.mem_filterMap.mpr ⟨X.env, List.mem_cons_self, by rw [hf, z]⟩)
  have nF : a ∉ X.fs := fun hm => by
    obtain ⟨e, he, q⟩ := List.mem_filterMap.mp hm
    exact nfr (List.mem_filterMap.mpr ⟨e, List.mem_cons_of_mem _ he, q⟩)
  have S3 := J3.suite he3 hd3 na nL nF
  have LT : PySem.W.Looks (model X.prog X.w) h3 (typeOf (.ref a)) cls := fun A Q E s k q => wpAny_typeOf_ref (k _ _ he3) (by rw [hz3.1]; exact q)
  have test : ∀ {x : Str} {c : Value} {np : Pos} {Q : Value → Shared → Prop} {E : Value → Shared → Prop}, Names X x c → Q c { s' with heap := h3 } → wpAny (model X.prog X.w) (X.A.mark (some (.ref a))) (eval (.Name x np) X.env) Q E { s' with heap := h3 } := fun {x c np Q E} hc q => by
    obtain ⟨hg, hdbg, hm | ⟨hm, hv, hnn⟩⟩ := hc
    · exact ld_glob (X := X.suite a ((a, oe3) :: (X.pn ++ pins))) S3 hg hm q hdbg
    · exact ld_blt (X := X.suite a ((a, oe3) :: (X.pn ++ pins))) S3 hg hm hv q hnn hdbg
  induction hk with
  | nil =>
    refine wpAny_handleBy_nil ?_
    obtain ⟨_, _, _, oe, vs, T, oT, ts', he, hz, hd, h1, hr⟩ := id fl
    unfold PySem.passOn
    refine wpAny_bind (wpAny_field he hd h1 ?_)
    rw [if_neg (by simp)]
    have go : wpAny (model X.prog X.w) X.A (setFlight (.ref a) X.env.frame) (fun _ s4 => wpAny (model X.prog X.w) X.A (throw (.ref a) : Sem Flow) (SP X pins D) X.xe s4) X.xe { s' with heap := h3 } := by
      rw [hf]
      refine HandSPX.setFlight_upZ fl fun h4 hh4 up4 => wpAny_throw (tk _ _ ⟨a, B, sI, pins, σ, H, cls, d, rfl, J, nb, up.trans up4, .inr (.inr ?_), na, os, ag, w⟩)
      rw [hst]
      exact hh4
    first
      | exact wpAny_bind (wpAny_pure (wpAny_bind go))
      | exact wpAny_bind go
  | only hc hsu r ih =>
    obtain ⟨b, hb, yes, no⟩ := w
    refine wpAny_handleBy_cons (codeAny_handlers_test (test hc ?_)) (by intro q; cases q)
    refine (PySem.W.exm_one (M := model X.prog X.w) J3.kIn LT hb).here ?_
    cases b with
    | true =>
      refine codeAny_handlers_suite (HandSPX.lands_againZ fl fun h4 fl4 up4 => ?_)
      obtain ⟨oe4, vs4, he4, hz4, hd4⟩ := fl4.there
      have J4 : Inv X pins σ H { s' with heap := h4 } := J.landed nb fl4.1 (up.trans up4) os ag
      have S4 := J4.suite he4 hd4 na nL nF
      exact wpAny_mono ((hsu a oe4 cls d (X.pn ++ pins) hz4 ⟨_, hd4⟩).run [] _ _ H _ S4 (yes rfl a na)) (fun f s6 q => suite_back (pn := []) ok q) fun _ _ z => z.elim
    | false =>
      show wpAny _ X.A (handleBy (.ref a) X.env _) _ _ _
      exact ih (no rfl)
  | @as x n i c ts b sts np pos hs2 l2 hc hi hln hsu r ih =>
    obtain ⟨b, hb, yes, no⟩ := w
    refine wpAny_handleBy_cons (codeAny_handlers_test (test hc ?_)) (by intro q; cases q)
    refine (PySem.W.exm_one (M := model X.prog X.w) J3.kIn LT hb).here ?_
    cases b with
    | true =>
      refine codeAny_handlers_suite_as (HandSPX.lands_againZ fl fun h4 fl4 up4 => ?_)
      obtain ⟨oe4, vs4, he4, hz4, hd4⟩ := fl4.there
      have J4 : Inv X pins σ H { s' with heap := h4 } := J.landed nb fl4.1 (up.trans up4) os ag
      have S4 := J4.suite he4 hd4 na nL nF
      refine store_ok (X := X.suite a ((a, oe4) :: (X.pn ++ pins))) (v := .ref a) S4 hN hi (.inl hln) rfl (fun s5 S5 => ?_) (.inr hln)
      refine wpAny_mono ((hsu a oe4 cls d (X.pn ++ pins) hz4 ⟨_, hd4⟩).run [] s5 _ H _ S5 (yes rfl a na)) (fun f s6 q => ?_) fun _ _ z => z.elim
      have bk := suite_back (pn := []) ok q
      cases f with
      | next =>
        obtain ⟨σ6, H6, S6, q6⟩ := bk
        exact gone_ok S6 hN hi hln fun s7 J7 => ⟨_, _, J7, q6⟩
      | brk =>
        obtain ⟨σ6, H6, S6, q6⟩ := bk
        exact gone_ok S6 hN hi hln fun s7 J7 => ⟨_, _, J7, q6⟩
      | cont =>
        obtain ⟨σ6, H6, S6, q6⟩ := bk
        exact gone_ok S6 hN hi hln fun s7 J7 => ⟨_, _, J7, q6⟩
      | ret u =>
        obtain ⟨v6, σ6, H6, S6, r6, q6⟩ := bk
        exact gone_ok S6 hN hi hln fun s7 J7 => ⟨_, _, _, J7, r6, q6⟩
    | false =>
      show wpAny _ X.A (handleBy (.ref a) X.env _) _ _ _
      exact ih (no rfl)
end
/-- what a try's body wishes of its exceptions -/
def catchXe (X : Cx) (pins : List (Addr × Obj)) (D : Ends) (hs : List ExceptHandler) : Value → Shared → Prop := fun e s1 =>
  wpAny (model X.prog X.w) X.A (noteFrame e X.env) (fun _ s2 => wpAny (model X.prog X.w) X.A (setFlight e none) (fun _ s3 => wpAny (model X.prog X.w) X.A (handleBy e X.env hs) (SP X pins D) X.xe s3) X.xe s2) X.xe s1
theorem passes_catch {X : Cx} {pins : List (Addr × Obj)} {D : Ends} {hs : List ExceptHandler} : PassesOwn (model X.prog X.w) X.A X.env (catchXe X pins D hs) := PassesOwn.looking
theorem takes_catch {X : Cx} {pins : List (Addr × Obj)} {D : Ends} {hs : List ExceptHandler} {l : List Cls1} {Wout : WX} (hst : X.stack = X.env :: X.outer) (hf : X.env.frame = some X.env.locals) (hN : X.N.Nodup) (tk : Takes X Wout) (hk : HdOk X hs l) :
    Takes (X.tr (X.pn ++ pins) (catchXe X pins D hs)) (wHs X.K Wout D l) := fun u s' xx => by
  obtain ⟨a, B, sI, pins', σ', H', cls, d, rfl, J', nb, up, sky, na, os, ag, w⟩ := xx
  have ok : X.Ok := J'.ok.ofTry
  have hfr : X.A.frames = some (X.env :: X.outer) := ok.frames.trans (by rw [hst])
  have sky' : Sky B (X.env :: X.outer) a (Zc cls d) X.env.locals s'.heap := by rw [← hst]; exact sky
  show catchXe X pins D hs (.ref a) s'
  refine Sky.land Zc.steady hfr hf sky' fun h3 fl3 up3 => ?_
  exact handled hst hf hN tk hk (J'.ofTry ok) nb (up.trans up3) fl3 na os ag w
theorem ps_tryX {X : Cx} {body : List Stmt} {h0 : ExceptHandler} {hs : List ExceptHandler} {l : List Cls1} {pos : Pos} {tb : WX → TS} {Wout : WX} (hst : X.stack = X.env :: X.outer) (hf : X.env.frame = some X.env.locals) (hN : X.N.Nodup) (tk : Takes X Wout)
    (hb : ∀ (W : WX) (pn : List (Addr × Obj)) (xe : Value → Shared → Prop), Takes (X.tr pn xe) W → PassesOwn (model X.prog X.w) X.A X.env xe → PSs (X.tr pn xe) body (tb W)) (hk : HdOk X (h0 :: hs) l) :
    PS X (.Try body (h0 :: hs) [] [] pos) (fun D σ H => tb (wHs X.K Wout D l) D σ H) := by
  refine ⟨fun pins s σ H D I h => ?_⟩
  have ok := I.ok
  refine wpAny_Try_except ?_
  refine wpAny_mono ((hb (wHs X.K Wout D l) (X.pn ++ pins) (catchXe X pins D (h0 :: hs)) (takes_catch hst hf hN tk hk) passes_catch).run [] s σ H D (I.toTry _) h) (fun f s1 hsp => ?_) (fun e s1 he => he)
  cases f with
  | next => exact let ⟨σ', H', J', q⟩ := hsp; wpAny_execs_nil ⟨σ', H', J'.ofTry ok, q⟩
  | brk => exact let ⟨σ', H', J', q⟩ := hsp; ⟨σ', H', J'.ofTry ok, q⟩
  | cont => exact let ⟨σ', H', J', q⟩ := hsp; ⟨σ', H', J'.ofTry ok, q⟩
  | ret u => exact let ⟨v, σ', H', J', r, q⟩ := hsp; ⟨v, σ', H', J'.ofTry ok, r, q⟩
end Pd
end

section
set_option Elab.async false
set_option linter.all false
set_option maxRecDepth 100000
set_option autoImplicit false
set_option maxHeartbeats 4000000
/-! Pd, except suites: e.f, isinstance(e, ..); try over data -/
namespace PySem.W
open PySem PySem.Spec PySem.Calls PyProof.Rows
section
variable {prog : Program} {w : World} {A : Around} {E : Value → Shared → Prop} {s : Shared} {K : Frag} {x D : Addr} {ox : Obj} {od : Option Obj}
theorem find_data {name : Str} {a g : Value} (hc : (clsIn K D).isSome = true) (ha : findIn K (.ref D) name = some (some a)) (hg : specialIn K a "__get__" = some (some g)) (ht : takesIn K a = some true) : findObj K D od name = some (.bind g a) := by
  obtain ⟨cd, e⟩ := Option.isSome_iff_exists.mp hc
  unfold findObj
  rw [e, Option.bind_some, ha, Option.bind_some]
  simp [hg, ht]
/-- e.__class__ of an own exception, with or without a dict -/
theorem exc_class {Q : Option Value → Shared → Prop} (C : L2.ExcC K D) (X : K.In s.heap) (I : InstAt s.heap x ox D od) (h : Q (some (.ref D)) { s with toks := s.toks + 1 }) : wpAny (model prog w) A (getAttr? (.ref x) "__class__") Q E s := by
  have isc : (clsIn K D).isSome = true := by
    obtain ⟨cd, hc, _⟩ := any_some C.hd
    rw [hc]
    rfl
  have hf := find_data (od := od) isc C.ha C.hn C.ht
  obtain ⟨hp, g, d, t, os⟩ := s
  have l0 := I.type (M := model prog w)
  have l1 := looks_findIn (M := model prog w) X C.hg
  have l2 := looks_findIn (M := model prog w) X C.hk
  have l3 := looks_find (M := model prog w) X I hf
  have sub : Looks (model prog w) hp (isInstance (.ref x) (.type "BaseException")) true := l0.andThen (looks_subIn X C.hs)
  have n0 : (false && onTheHeap (Value.builtin "BaseException.__getattribute__")) = false := rfl
  have n1 : (onTheHeap (Value.ref D) && Value.builtin "BaseException.__getattribute__" == Value.builtin "object.__getattribute__") = false := by
    rw [show (Value.builtin "BaseException.__getattribute__" == Value.builtin "object.__getattribute__") = false by decide +kernel, Bool.and_false]
  unfold getAttr? getAttrBy? getAttrBy
  refine wpAny_bind (wpAny_mkText (wpAny_bind (wpAny_attempt (wpAny_holding (wpAny_bind (l0.at (wpAny_bind (l1.at ?_))))))))
  dsimp only
  rw [n1, if_neg Bool.false_ne_true]
  unfold getAttrByItsOwn hookBefore
  refine wpAny_bind ?_
  rw [if_pos (show onTheHeap (Value.ref D) = true from rfl)]
  refine l2.at (wpAny_bind (wpAny_attempt (wpAny_holding ?_)))
  unfold callGetattribute
  rw [n0, if_neg Bool.false_ne_true]
  unfold boundAndCalled
  rw [PySem.F.excAttr_ValueError.ga.bind (.ref x)]
  refine wpAny_bind (wpAny_pure ?_)
  show wpAny _ _ (call (.builtin "BaseException.__getattribute__") [.ref x, .str "__class__" t]) _ _ _
  refine wpAny_call (codeAny_call_builtin PySem.F.excAttr_ValueError.ga.plain PySem.F.entry_bexc_ga ?_)
  refine check_slot (s := ⟨hp, g, d, t + 1, os⟩) (i := "BaseException.__getattribute__") (owner := "BaseException") (n := "__getattribute__") (self := .ref x) (rest := [.str "__class__" t]) (kw := []) (by decide +kernel) (by decide +kernel) sub
    (PySem.F.args_bexc_ga (.ref x) (.str "__class__" t)) ?_
  unfold Builtin.«object.__getattribute__»
  refine wpAny_bind (wpAny_of_eq (a := ((Value.ref x : Value), [Value.str "__class__" t])) (by first | rfl | (simp only [slotArgs]; rfl)) ?_)
  refine wpAny_bind (wpAny_pure (wpAny_bind (l0.at (wpAny_bind (l3.at ?_)))))
  show wpAny _ _ (holding [Value.builtin "object.__class__"] (call (.builtin "getset_descriptor.__get__") [.builtin "object.__class__", .ref x, .ref D]) >>= ret) _ _ _
  refine wpAny_bind (wpAny_holding (wpAny_call (class_get (s := ⟨hp, g, d, t + 1, os⟩) (ox := ox) (od := od) X I C.hm ?_)))
  refine wpAny_pure ?_
  show wpAny _ _ (handedOut (.ref D)) _ _ _
  rw [handedOut_of (v := .ref D) rfl]
  first
    | exact wpAny_pure (wpAny_pure h)
    | exact wpAny_pure h
    | exact wpAny_pure (wpAny_bind (wpAny_pure (wpAny_pure h)))
theorem cls_obj (C : L2.ExcC K D) : ∃ c d cd sl, K.lookup D = some ⟨c, d, .cls cd, sl⟩ := by
  obtain ⟨cdD, hcD, _⟩ := any_some C.hd
  unfold clsIn at hcD
  split at hcD
  · exact ⟨_, _, _, _, by assumption⟩
  · cases hcD
theorem kitx_exn (C : L2.ExcC K D) : KitX K (.ref x) (.ref D) (fun h => ∃ od, InstAt h x ox D od) where
  ty := fun _ _ _ ⟨_, I⟩ => I.type
  it := fun _ _ X _ => by
    obtain ⟨c, d, cd, sl, ho⟩ := cls_obj C
    intro A' Q' E' s' k q
    unfold isType loadHead
    exact wpAny_bind (wpAny_loadPart (k _ _ (X _ _ ho)) (wpAny_pure q))
  ne := fun h tp dd its n sl X htp => Bool.eq_false_iff.mpr fun q => by
    obtain ⟨c, d, cd, sl, ho⟩ := cls_obj C
    have e : D = tp := Value.ref.inj (beq_iff_eq.mp q)
    subst e
    have z := (X _ _ ho).symm.trans htp
    cases z
  ca := fun X ⟨_, I⟩ k => exc_class C X I k
end
end PySem.W

namespace Pd
open PySem PySem.Spec PyProof.Rows L2 PySem.PdX
variable {ξ : XI}
/-! ### isinstance(e, c), isinstance(e, (c, ..)) -/
def rIsE1 (K : PySem.W.Frag) (D a : Addr) : List V → Hp → VK → Prop := fun xs H Q => ∃ (c : V) (u : Value) (b : Bool), xs = [.ref a, c] ∧ ClsV c u ∧ PySem.W.kitOne K (.ref D) u = some b ∧ Q (.bl b) H
def rIsET (K : PySem.W.Frag) (D a : Addr) : List V → Hp → VK → Prop := fun xs H Q => ∃ (tp : Addr) (cs : List V) (us : List Value) (b : Bool), xs = [.ref a, .ref tp] ∧ H tp = some (.tup cs) ∧ Paired ClsV cs us ∧ PySem.W.kitAny K (.ref D) us = some b ∧ Q (.bl b) H
section
variable {X : Cx} {a D : Addr} {oe : Obj} {d : Option Addr} {pn : List (Addr × Obj)}
/-- the caught exception, in its suite -/
theorem suite_inst {pins : List (Addr × Obj)} {σ : L2.St} {H : Hp} {s : Shared} {dd : Addr} {us : List (Str × V)} (hz : Zc (.ref D) (some dd) oe) (hf : ∃ vs, oe.data = .fields vs) (I : Inv (X.suite a ((a, oe) :: pn)) pins σ H s) (hd : H dd = some (.xd us)) : ∃ od, PySem.W.InstAt s.heap a oe D od := by
  obtain ⟨hget, _⟩ := I.pin (a, oe) (List.mem_append.mpr (.inl List.mem_cons_self))
  obtain ⟨vs, hv⟩ := hf
  have hx : ObjOk X.prog X.w H s.heap dd (.xd us) := I.hok dd _ hd
  obtain ⟨mA, hns, _⟩ := hx
  obtain ⟨od, ho, _⟩ := lookIn_ns hns
  exact ⟨some od, hget, hz.1, by unfold PySem.W.notCls; rw [hv] <;> rfl, by rw [hz.2]; exact ho⟩
theorem call_isE1 {dd : Addr} (C : ExcC X.K D) (hz : Zc (.ref D) (some dd) oe) (hf : ∃ vs, oe.data = .fields vs) : CallR (X.suite a ((a, oe) :: pn)) (.builtin "isinstance") (fun xs H Q => (∃ us, H dd = some (.xd us)) ∧ rIsE1 X.K D a xs H Q) := by
  intro pins s σ H xs us Q I r ⟨⟨fs, hd⟩, h⟩
  obtain ⟨c, u, b, rfl, hc, e, q⟩ := h
  obtain ⟨u1, u2, rfl, r1, r2⟩ := vals2 r
  cases (show u1 = Value.ref a from r1)
  have ec := hc.eq r2
  subst ec
  exact PySem.W.kia_one (PySem.W.kitx_exn C) I.kIn (suite_inst hz hf I hd) e (fun z => nomatch z) fun tk => ⟨.bl b, H, I.tok tk, rfl, q⟩
theorem call_isET {dd : Addr} (C : ExcC X.K D) (hz : Zc (.ref D) (some dd) oe) (hf : ∃ vs, oe.data = .fields vs) : CallR (X.suite a ((a, oe) :: pn)) (.builtin "isinstance") (fun xs H Q => (∃ us, H dd = some (.xd us)) ∧ rIsET X.K D a xs H Q) := by
  intro pins s σ H xs us Q I r ⟨⟨fs, hd⟩, h⟩
  obtain ⟨tp, cs, ws, b, rfl, hT, k, e, q⟩ := h
  obtain ⟨u1, u2, rfl, r1, r2⟩ := vals2 r
  cases (show u1 = Value.ref a from r1)
  cases (show u2 = Value.ref tp from r2)
  have hx : ObjOk X.prog X.w H s.heap tp (.tup cs) := I.hok tp _ hT
  obtain ⟨_, its, rv, o, h1, h2, n, h3⟩ := hx
  have e3 := ClsV.all k rv
  subst e3
  obtain ⟨oc, oda, dt, sl⟩ := o
  simp only at h2 h3
  subst h2 h3
  exact PySem.W.kia_tup (PySem.W.kitx_exn C) I.kIn (suite_inst hz hf I hd) h1 e (fun z => nomatch z) fun tk => ⟨.bl b, H, I.tok tk, rfl, q⟩
end

/-! ### the classes -/
/-- y names a class, own or built-in -/
inductive NmV (mg : Str → Option Value) (y : Str) : V → Value → Prop
  | own {C : Addr} : mg y = some (.ref C) → NmV mg y (.ref C) (.ref C)
  | blt {T : String} : mg y = none → bootBuiltins y = some (.type T) → y ≠ "__name__" → NmV mg y (.ty T) (.type T)
theorem NmV.cls {mg : Str → Option Value} {y : Str} {v : V} {u : Value} (h : NmV mg y v u) : ClsV v u := by
  cases h with
  | own _ => exact .own _
  | blt _ _ _ => exact .ty _
theorem NmV.pe {X : Cx} {y : Str} {v : V} {u : Value} {p : Pos} (h : NmV X.mg y v u) (hg : Gl X y) (hd : (y == ("__debug__" : Str)) = false) : PE X (.Name y p) (tC v) := by
  cases h with
  | own hm => exact pe_glob hg hm rfl hd
  | blt hm hv hn => exact pe_bltn hg hm hv rfl hn hd
theorem NmV.names {X : Cx} {y : Str} {v : V} {u : Value} (h : NmV X.mg y v u) (hg : Gl X y) (hd : (y == ("__debug__" : Str)) = false) : Names X y u := by
  cases h with
  | own hm => exact ⟨hg, hd, .inl hm⟩
  | blt hm hv hn => exact ⟨hg, hd, .inr ⟨hm, hv, hn⟩⟩
theorem NmV.inj {mg : Str → Option Value} {y : Str} {v v' : V} {u u' : Value} (h : NmV mg y v u) (h' : NmV mg y v' u') : v = v' ∧ u = u' := by
  cases h with
  | own h1 =>
    cases h' with
    | own h2 => rw [h1] at h2; cases h2; exact ⟨rfl, rfl⟩
    | blt h2 _ _ => rw [h1] at h2; cases h2
  | blt h1 b1 _ =>
    cases h' with
    | own h2 => rw [h1] at h2; cases h2
    | blt h2 b2 _ => rw [b1] at b2; cases b2; exact ⟨rfl, rfl⟩
/-- x's instances are y's: b -/
def Below (K : PySem.W.Frag) (mg : Str → Option Value) (x y : Str) (b : Bool) : Prop := ∃ (C : Addr) (v : V) (u : Value), mg x = some (.ref C) ∧ NmV mg y v u ∧ PySem.W.exmOne K (.ref C) u = some b ∧ PySem.W.kitOne K (.ref C) u = some b
/-- what is read of the classes that may come -/
structure Tab (K : PySem.W.Frag) (mg : Str → Option Value) (cs ys fl : List Str) (sub : Str → Str → Bool) : Prop where
  rd : ∀ x ∈ cs, ∃ C, mg x = some (.ref C) ∧ XfC K C ∧ ExcC K C ∧ ∀ f ∈ fl, PySem.W.findIn K (.ref C) f = some none
  bl : ∀ x ∈ cs, ∀ y ∈ ys, Below K mg x y (sub x y)
theorem Tab.nm {K : PySem.W.Frag} {mg : Str → Option Value} {cs ys fl : List Str} {sub : Str → Str → Bool} {x y : Str} (T : Tab K mg cs ys fl sub) (hx : x ∈ cs) (hy : y ∈ ys) : ∃ v u, NmV mg y v u :=
  let ⟨_, v, u, _, h, _⟩ := T.bl x hx y hy
  ⟨v, u, h⟩

/-! ### in a suite -/
section
variable {X : Cx} {a C : Addr} {oe : Obj} {cls : Value} {d : Option Addr} {pn : List (Addr × Obj)} {x : Xn} {cs ys fl : List Str} {sub : Str → Str → Bool} {n : Str} {np pos p p1 : Pos}
/-- e.f -/
def wXf (a : Addr) (d : Option Addr) (i : Nat) (f : Str) : WE := fun ρ Φ => match ρ[i]? with
  | some (.sh (.xn a' d' fs)) => a' = a ∧ d' = d ∧ (match fs.lookup f with
    | some y => Φ (.d y)
    | none => False)
  | _ => False
theorem lk {β : Type} (f g : Str) (y : β) (fs : List (Str × β)) : ((f, y) :: fs).lookup g = if g = f then some y else fs.lookup g := by
  by_cases h : g = f
  · subst h
    simp [List.lookup]
  · have e : (g == f) = false := by simpa using h
    rw [if_neg h]
    simp [List.lookup, e]
theorem fld_lookup {K : PySem.W.Frag} {G : Hp} {f : Str} {y : D} : ∀ {us : List (Str × V)} {fs : List (Str × D)}, KvD K G us fs → fs.lookup f = some y → ∃ v, us.lookup f = some v ∧ Dd K G v y
  | _, _, .nil, e => by simp at e
  | (f1, v1) :: us, (f2, y1) :: fs, .cons h t, e => by
    obtain ⟨h1, h2⟩ := h
    have h1' : f1 = f2 := h1
    subst h1'
    rw [lk] at e ⊢
    by_cases q : f = f1
    · rw [if_pos q] at e ⊢
      cases e
      exact ⟨v1, rfl, h2⟩
    · rw [if_neg q] at e ⊢
      exact fld_lookup t e
theorem me_xf (i : Nat) {f : Str} (T : Tab X.K X.mg cs ys fl sub) (hz : Zc cls d oe) (hf : ∃ vs, oe.data = .fields vs) (hx : x.cls ∈ cs) (hm : X.mg x.cls = some (.ref C)) (hc : cls = .ref C) (hfl : f ∈ fl := by decide +kernel) (hN : X.N[i]? = some n := by rfl)
    (hv : Vis X.env.scope n := by first | exact Or.inl rfl | exact Or.inr (Or.inl rfl) | exact Or.inr (Or.inr rfl)) (hd : (n == ("__debug__" : Str)) = false := by decide) (hcd : (n == ("__classdict__" : Str)) = false := by decide)
    (hb : attributeBase (.Name n np) f X.env (eval (.Name n np) X.env) = eval (.Name n np) X.env := by rfl) :
    ME (X.suite a ((a, oe) :: pn)) (.Attribute (.Name n np) f pos) (tXf a cls d C f (tVar i)) (wXf a d i f) := by
  obtain ⟨C', hm', xf, _, no⟩ := T.rd x.cls hx
  rw [hm] at hm'
  cases hm'
  refine ⟨pe_xf xf (no f hfl) hz hf (pv (X := X.suite a ((a, oe) :: pn)) i hN hv hd hcd) hb, fun EX G H σ ρ Φ R fw Q q => ?_⟩
  unfold wXf at fw
  split at fw
  · rename_i a' d' fs e
    obtain ⟨rfl, rfl, fw⟩ := fw
    obtain ⟨v, e1, rfl, dd, us, rfl, g, kv⟩ := R.var e
    split at fw
    · rename_i y hy
      obtain ⟨v, l, dv⟩ := fld_lookup kv hy
      exact ⟨.ref a', e1, rfl, hc, dd, us, v, rfl, R.sub _ _ g, l, q v G H (.d y) R.refl dv fw⟩
    · exact fw.elim
  · exact fw.elim
/-- isinstance(e, c) -/
def wXis (a : Addr) (d : Option Addr) (i : Nat) (b : Bool) : WE := fun ρ Φ => (∃ fs, ρ[i]? = some (.sh (.xn a d fs))) ∧ Φ (.d (.bool b))
def tXis (K : PySem.W.Frag) (mg : Str → Option Value) (a : Addr) (d : Option Addr) (i : Nat) (C : Addr) (y : Str) : TE := fun σ H Q => ∃ (dd : Addr) (us : List (Str × V)) (v : V) (u : Value) (b : Bool), d = some dd ∧ H dd = some (.xd us) ∧ NmV mg y v u ∧ PySem.W.kitOne K (.ref C) u = some b ∧ σ[i]? = some (some (.ref a)) ∧ Q (.bl b) H
theorem me_xis (i : Nat) {y : Str} (T : Tab X.K X.mg cs ys fl sub) (hz : Zc cls d oe) (hf : ∃ vs, oe.data = .fields vs) (hx : x.cls ∈ cs) (hm : X.mg x.cls = some (.ref C)) (hc : cls = .ref C) (hmi : X.mg "isinstance" = none) (hy : y ∈ ys := by decide +kernel) (hN : X.N[i]? = some n := by rfl)
    (hv : Vis X.env.scope n := by first | exact Or.inl rfl | exact Or.inr (Or.inl rfl) | exact Or.inr (Or.inr rfl)) (hd : (n == ("__debug__" : Str)) = false := by decide) (hcd : (n == ("__classdict__" : Str)) = false := by decide) (hg : Gl X "isinstance" := by rfl) (hgy : Gl X y := by rfl) (hdy : (y == ("__debug__" : Str)) = false := by decide)
    (hs : starEach (.Name n np :: [.Name y p1]) X.env = (false, eval (.Name n np) X.env) :: starEach [.Name y p1] X.env := by rfl) (hs2 : starEach [.Name y p1] X.env = (false, eval (.Name y p1) X.env) :: starEach [] X.env := by rfl) (hpl : (backTo pos (starEach [.Name y p1] X.env)).any (·.1) = false := by rfl) :
    ME (X.suite a ((a, oe) :: pn)) (.Call (.Name "isinstance" p) [.Name n np, .Name y p1] [] pos) (tXis X.K X.mg a d i C y) (wXis a d i (sub x.cls y)) := by
  obtain ⟨C', hm', _, ec, _⟩ := T.rd x.cls hx
  rw [hm] at hm'
  cases hm'
  obtain ⟨C', v, u, hm', nv, _, ki⟩ := T.bl x.cls hx y hy
  rw [hm] at hm'
  cases hm'
  subst hc
  refine ⟨⟨fun pins s σ H Q I ⟨dd, us, v, u, b, ed, hd', nv, ki, hσ, q⟩ => ?_⟩, fun EX G H σ ρ Φ R fw Q q => ?_⟩
  · subst ed
    exact (pe_callB (X := X.suite a ((a, oe) :: pn)) (call_isE1 ec hz hf) hg hmi boot_isinstance (pa_cons (pv (X := X.suite a ((a, oe) :: pn)) i hN hv hd hcd) (pa_cons (nv.pe (X := X.suite a ((a, oe) :: pn)) hgy hdy) pa_nil hs2) hs) (he := hs) (hpl := hpl)).run pins s σ H Q I
      ⟨.ref a, hσ, ⟨us, hd'⟩, v, u, b, rfl, nv.cls, ki, q⟩
  · obtain ⟨⟨fs, e⟩, fw⟩ := fw
    obtain ⟨v', e1, rfl, dd, us, rfl, g, kv⟩ := R.var e
    exact ⟨dd, us, v, u, _, rfl, R.sub _ _ g, nv, ki, e1, q _ G H (.d (.bool _)) R.refl (Dd.bl _) fw⟩
/-- isinstance(e, (c, ..)) -/
inductive NmVs (mg : Str → Option Value) : List Str → List V → List Value → Prop
  | nil : NmVs mg [] [] []
  | cons {y : Str} {v : V} {u : Value} {ys : List Str} {vs : List V} {us : List Value} : NmV mg y v u → NmVs mg ys vs us → NmVs mg (y :: ys) (v :: vs) (u :: us)
theorem nmvs_cls {mg : Str → Option Value} : ∀ {ys : List Str} {vs : List V} {us : List Value}, NmVs mg ys vs us → Paired ClsV vs us
  | _, _, _, .nil => .nil
  | _, _, _, .cons h t => .cons h.cls (nmvs_cls t)
def tCs : List V → TA
  | [] => tNil
  | v :: vs => tCons (tC v) (tCs vs)
theorem tCs_run {vs : List V} {σ : L2.St} {H : Hp} {Q : List V → Hp → Prop} (h : Q vs H) : tCs vs σ H Q := by
  induction vs generalizing Q with
  | nil => exact h
  | cons v vs ih => exact ih (Q := fun xs H2 => Q (v :: xs) H2) h
theorem any_below {K : PySem.W.Frag} {mg : Str → Option Value} {C : Addr} {x : Str} (hm : mg x = some (.ref C)) : ∀ {zs : List Str}, (∀ y ∈ zs, Below K mg x y (sub x y)) → ∃ vs us, NmVs mg zs vs us ∧ PySem.W.kitAny K (.ref C) us = some (zs.any (sub x))
  | [], _ => ⟨[], [], .nil, rfl⟩
  | y :: zs, h => by
    obtain ⟨C', v, u, hm', nv, _, ki⟩ := h y List.mem_cons_self
    rw [hm] at hm'
    cases hm'
    obtain ⟨vs, us, nvs, ka⟩ := any_below hm fun z hz => h z (List.mem_cons_of_mem _ hz)
    refine ⟨v :: vs, u :: us, .cons nv nvs, ?_⟩
    rw [List.any_cons]
    refine kitAny_cons ki (fun e => ?_) fun e => ?_
    · rw [e, Bool.false_or]
      exact ka
    · rw [e, Bool.true_or]
/-- the written names of the classes -/
inductive NmsE (X : Cx) : List Str → List Expr → Prop
  | nil : NmsE X [] []
  | cons {y : Str} {ys : List Str} {q : Pos} {es : List Expr} : Gl X y → (y == ("__debug__" : Str)) = false → starEach (.Name y q :: es) X.env = (false, eval (.Name y q) X.env) :: starEach es X.env → NmsE X ys es → NmsE X (y :: ys) (.Name y q :: es)
theorem nms_pa {X : Cx} : ∀ {zs : List Str} {es : List Expr} {vs : List V} {us : List Value}, NmsE X zs es → NmVs X.mg zs vs us → PA X es (tCs vs)
  | _, _, _, _, .nil, .nil => pa_nil
  | _, _, _, _, .cons hg hd hs r, .cons h t => pa_cons (h.pe hg hd) (nms_pa r t) hs
theorem nmvs_len {mg : Str → Option Value} : ∀ {zs : List Str} {vs : List V} {us : List Value}, NmVs mg zs vs us → vs.length = zs.length
  | _, _, _, .nil => rfl
  | _, _, _, .cons _ t => by rw [List.length_cons, List.length_cons, nmvs_len t]
def tXisT (K : PySem.W.Frag) (mg : Str → Option Value) (a : Addr) (d : Option Addr) (i : Nat) (C : Addr) (zs : List Str) : TE := fun σ H Q => ∃ (dd : Addr) (us : List (Str × V)) (vs : List V) (ws : List Value) (b : Bool), d = some dd ∧ H dd = some (.xd us) ∧ NmVs mg zs vs ws ∧ PySem.W.kitAny K (.ref C) ws = some b ∧
  σ[i]? = some (some (.ref a)) ∧ ∀ q, H q = none → Q (.bl b) (upd H q (.tup vs))
theorem me_xisT (i : Nat) (zs : List Str) {es : List Expr} {k : Nat} {tp : Pos} (T : Tab X.K X.mg cs ys fl sub) (hz : Zc cls d oe) (hf : ∃ vs, oe.data = .fields vs) (hx : x.cls ∈ cs) (hm : X.mg x.cls = some (.ref C)) (hc : cls = .ref C) (hmi : X.mg "isinstance" = none) (hes : NmsE X zs es)
    (hzs : ∀ y ∈ zs, y ∈ ys := by decide +kernel) (hzl : zs.length ≤ 1000 := by decide) (hN : X.N[i]? = some n := by rfl)
    (hv : Vis X.env.scope n := by first | exact Or.inl rfl | exact Or.inr (Or.inl rfl) | exact Or.inr (Or.inr rfl)) (hd : (n == ("__debug__" : Str)) = false := by decide) (hcd : (n == ("__classdict__" : Str)) = false := by decide) (hg : Gl X "isinstance" := by rfl)
    (hs : starEach (.Name n np :: [.Tuple es k tp]) X.env = (false, eval (.Name n np) X.env) :: starEach [.Tuple es k tp] X.env := by rfl) (hs2 : starEach [.Tuple es k tp] X.env = (false, eval (.Tuple es k tp) X.env) :: starEach [] X.env := by rfl) (hpl : (backTo pos (starEach [.Tuple es k tp] X.env)).any (·.1) = false := by rfl) :
    ME (X.suite a ((a, oe) :: pn)) (.Call (.Name "isinstance" p) [.Name n np, .Tuple es k tp] [] pos) (tXisT X.K X.mg a d i C zs) (wXis a d i (zs.any (sub x.cls))) := by
  obtain ⟨C', hm', _, ec, _⟩ := T.rd x.cls hx
  rw [hm] at hm'
  cases hm'
  obtain ⟨vs, us, nvs, ka⟩ := any_below hm fun y hy => T.bl x.cls hx y (hzs y hy)
  subst hc
  refine ⟨⟨fun pins s σ H Q I ⟨dd, us, vs, ws, b, ed, hd', nv, ki, hσ, q⟩ => ?_⟩, fun EX G H σ ρ Φ R fw Q q => ?_⟩
  · subst ed
    have hes' : NmsE (X.suite a ((a, oe) :: pn)) zs es := by
      have key : ∀ {zs : List Str} {es : List Expr}, NmsE X zs es → NmsE (X.suite a ((a, oe) :: pn)) zs es := fun h => by
        induction h with
        | nil => exact .nil
        | cons h1 h2 h3 _ ih => exact .cons h1 h2 h3 ih
      exact key hes
    refine (pe_callB (X := X.suite a ((a, oe) :: pn)) (call_isET ec hz hf) hg hmi boot_isinstance (pa_cons (pv (X := X.suite a ((a, oe) :: pn)) i hN hv hd hcd) (pa_cons (pe_tup (nms_pa hes' nv)) pa_nil hs2) hs) (he := hs) (hpl := hpl)).run pins s σ H Q I
      ⟨.ref a, hσ, tCs_run ⟨le_line (by rw [nmvs_len nv]; exact hzl), fun q1 hq1 => ⟨⟨us, ?_⟩, q1, vs, ws, b, rfl, upd_same, nmvs_cls nv, ki, q q1 hq1⟩⟩⟩
    rw [upd_ne (ne_of_none hd' hq1)]
    exact hd'
  · obtain ⟨⟨fs, e⟩, fw⟩ := fw
    obtain ⟨v', e1, rfl, dd, fs', rfl, g, kv⟩ := R.var e
    refine ⟨dd, fs', vs, us, _, rfl, R.sub _ _ g, nvs, ka, e1, fun q1 hq1 => ?_⟩
    exact q _ G _ (.d (.bool _)) (R.toGd.newOut (p := q1) (o := .tup vs) hq1) (Dd.bl _) fw
end

/-! ### try, over data -/
structure HdX where
  c : Str
  i : Option Nat
  ws : Addr → Option Addr → Xn → WS
def outPs (i : Nat) (P : Ps) : Ps := { nx := fun ρ => P.nx (ρ.set i .un), rt := P.rt, bk := fun ρ => P.bk (ρ.set i .un), ct := fun ρ => P.ct (ρ.set i .un), ex := fun _ _ => False }
def wHandle (sub : Str → Str → Bool) : List HdX → Xn → Rh → Ps → Prop
  | [], x, ρ, P => P.ex x ρ
  | h :: r, x, ρ, P => if sub x.cls h.c = true then (match h.i with
      | none => ∀ a d, h.ws a d x ρ { P with ex := fun _ _ => False }
      | some i => ∀ a d, h.ws a d x (ρ.set i (.sh (.xn a d x.fs))) (outPs i P)) else wHandle sub r x ρ P
def wTry (cs : List Str) (sub : Str → Str → Bool) (wb : WS) (l : List HdX) : WS := fun ρ P => wb ρ { P with ex := fun x ρ' => x.cls ∈ cs ∧ wHandle sub l x ρ' P }
abbrev TX := Addr → Obj → Value → Option Addr → List (Addr × Obj) → Xn → Addr → TS
def tEx (cs : List Str) (mg : Str → Option Value) (ts : TX) : Addr → Value → Option Addr → TS := fun a cls d D σ H => ∃ (x : Xn) (C : Addr), x.cls ∈ cs ∧ mg x.cls = some (.ref C) ∧ cls = .ref C ∧ ∀ (oe : Obj) (pn : List (Addr × Obj)), Zc cls d oe → (∃ vs, oe.data = .fields vs) → ts a oe cls d pn x C D σ H
/-- a suite, over data -/
abbrev SuiteX (X : Cx) (cs : List Str) (sts : List Stmt) (ts : TX) (ws : Addr → Option Addr → Xn → WS) : Prop := ∀ (a : Addr) (oe : Obj) (cls : Value) (d : Option Addr) (pn : List (Addr × Obj)) (x : Xn) (C : Addr), Zc cls d oe → (∃ vs, oe.data = .fields vs) → x.cls ∈ cs → X.mg x.cls = some (.ref C) → cls = .ref C →
  MSs (X.suite a ((a, oe) :: pn)) xi0 sts (ts a oe cls d pn x C) (ws a d x)
inductive HdW (X : Cx) (cs : List Str) (sub : Str → Str → Bool) : List ExceptHandler → List Cls1 → List HdX → Prop
  | nil : HdW X cs sub [] [] []
  | only {y : Str} {v : V} {u : Value} {ts : TX} {ws : Addr → Option Addr → Xn → WS} {b : Stmt} {sts : List Stmt} {np pos : Pos} {hs : List ExceptHandler} {l : List Cls1} {lw : List HdX} : NmV X.mg y v u → Gl X y → (y == ("__debug__" : Str)) = false → (∀ x ∈ cs, Below X.K X.mg x y (sub x y)) → SuiteX X cs (b :: sts) ts ws →
      HdW X cs sub hs l lw → HdW X cs sub (.ExceptHandler (some (.Name y np)) none (b :: sts) pos :: hs) (⟨u, none, tEx cs X.mg ts⟩ :: l) (⟨y, none, ws⟩ :: lw)
  | as {y n : Str} {i : Nat} {v : V} {u : Value} {ts : TX} {ws : Addr → Option Addr → Xn → WS} {b : Stmt} {sts : List Stmt} {np pos : Pos} {hs : List ExceptHandler} {l : List Cls1} {lw : List HdX} : NmV X.mg y v u → Gl X y → (y == ("__debug__" : Str)) = false → (∀ x ∈ cs, Below X.K X.mg x y (sub x y)) → X.N[i]? = some n → X.env.kindOf n = some .local →
      SuiteX X cs (b :: sts) ts ws → HdW X cs sub hs l lw → HdW X cs sub (.ExceptHandler (some (.Name y np)) (some n) (b :: sts) pos :: hs) (⟨u, some i, tEx cs X.mg ts⟩ :: l) (⟨y, some i, ws⟩ :: lw)
section
variable {X : Cx} {cs : List Str} {sub : Str → Str → Bool} {hs : List ExceptHandler} {l : List Cls1} {lw : List HdX}
theorem suite_ok {sts : List Stmt} {ts : TX} {ws : Addr → Option Addr → Xn → WS} (h : SuiteX X cs sts ts ws) : SuiteOk X sts (tEx cs X.mg ts) := fun a oe cls d pn hz hf =>
  ⟨fun pins s σ H D I ⟨x, C, h1, h2, h3, q⟩ => (h a oe cls d pn x C hz hf h1 h2 h3).ps.run pins s σ H D I (q oe pn hz hf)⟩
theorem hd_ok (h : HdW X cs sub hs l lw) : HdOk X hs l := by
  induction h with
  | nil => exact .nil
  | only nv hg hd _ hsu _ ih => exact .only (nv.names hg hd) (suite_ok hsu) ih
  | as nv hg hd _ hi hl hsu _ ih => exact .as (nv.names hg hd) hi hl (suite_ok hsu) ih
theorem Rel.unset {K : PySem.W.Frag} {EX : Ext} {G H : Hp} {σ : L2.St} {ρ : Rh} (R : Rel K EX G H σ ρ) (i : Nat) : Rel K EX G H (σ.set i none) (ρ.set i .un) := R.wipe [i]
theorem own_unset {σ : L2.St} {ρ : Rh} {i : Nat} {b : Addr} (h : Own (σ.set i none) (ρ.set i .un) b) : Own σ ρ b := by
  obtain ⟨j, m, a, e1, e2, e3⟩ := h
  by_cases hj : j = i
  · subst hj
    have hl := (List.getElem?_eq_some_iff.mp e1).1
    rw [List.length_set] at hl
    rw [List.getElem?_set_self hl] at e1
    cases e1
  · rw [List.getElem?_set_ne (Ne.symm hj)] at e1 e2
    exact ⟨j, m, a, e1, e2, e3⟩
/-- what the clauses do, from what they say of data -/
theorem so_handle {EX : Ext} {O : Addr → Prop} {G H : Hp} {P : Ps} {D : Ends} {Wout : WX} (hk : HdW X cs sub hs l lw) (E : EndsOk X.K (xiW X.K X.mg Wout) EX O G H P D)
    {EX' : Ext} {G' H' : Hp} {σ' : L2.St} {ρ' : Rh} {x : Xn} (S : SStep EX O G H EX' G' H') (R : Rel X.K EX' G' H' σ' ρ') (o : ∀ b, Own σ' ρ' b → O b ∨ H b = none) (hx : x.cls ∈ cs) (hw : wHandle sub lw x ρ' P) {cls : Value} {d : Option Addr} (rx : RwX X.K X.mg G' cls d x) :
    wHs X.K Wout D l cls d σ' H' := by
  obtain ⟨C, dd, us, hm, rfl, rfl, gd, kv⟩ := id rx
  induction hk with
  | nil => exact E.ex EX' G' H' σ' ρ' x S R o hw (.ref C) (some dd) rx
  | @only y v u ts ws b sts np pos hs l lw nv hg hdb bl hsu r ih =>
    obtain ⟨C', v', u', hm', nv', em, ki⟩ := bl x.cls hx
    rw [hm] at hm'
    cases hm'
    obtain ⟨rfl, rfl⟩ := nv.inj nv'
    refine ⟨_, em, fun hb a na => ?_, fun hb => ih ?_⟩
    · unfold wHandle at hw
      rw [if_pos hb] at hw
      refine ⟨x, C, hx, hm, rfl, fun oe pn hz hf => ?_⟩
      have so : SoS X.K xi0 (ts a oe (.ref C) (some dd) pn x C) (ws a (some dd) x) := (hsu a oe (.ref C) (some dd) pn x C hz hf hx hm rfl).so
      have E' := E.from S R.toGd o
      exact so EX' G' H' σ' ρ' _ R (hw a (some dd)) D ⟨E'.nx, E'.bk, E'.ct, E'.rt, fun _ _ _ _ _ _ _ _ _ _ => trivial⟩
    · unfold wHandle at hw
      rw [if_neg (by rw [hb]; decide)] at hw
      exact hw
  | @as y n i v u ts ws b sts np pos hs l lw nv hg hdb bl hi hl hsu r ih =>
    obtain ⟨C', v', u', hm', nv', em, ki⟩ := bl x.cls hx
    rw [hm] at hm'
    cases hm'
    obtain ⟨rfl, rfl⟩ := nv.inj nv'
    refine ⟨_, em, fun hb a na => ?_, fun hb => ih ?_⟩
    · unfold wHandle at hw
      rw [if_pos hb] at hw
      refine ⟨x, C, hx, hm, rfl, fun oe pn hz hf => ?_⟩
      have so : SoS X.K xi0 (ts a oe (.ref C) (some dd) pn x C) (ws a (some dd) x) := (hsu a oe (.ref C) (some dd) pn x C hz hf hx hm rfl).so
      have E' := E.from S R.toGd o
      have R2 : Rel X.K EX' G' H' (σ'.set i (some (.ref a))) (ρ'.set i (.sh (.xn a (some dd) x.fs))) := R.set i (r := .xn a (some dd) x.fs) ⟨rfl, dd, us, rfl, gd, kv⟩
      have o2 : ∀ b, Own (σ'.set i (some (.ref a))) (ρ'.set i (.sh (.xn a (some dd) x.fs))) b → Own σ' ρ' b ∨ H' b = none := fun b q => .inl (own_set q)
      have E2 := E'.from .refl R2.toGd o2
      refine so EX' G' H' _ _ _ R2 (hw a (some dd)) (outEnds i D) ⟨fun EX2 G2 H2 σ2 ρ2 S2 R3 o3 f => ?_, fun EX2 G2 H2 σ2 ρ2 S2 R3 o3 f => ?_, fun EX2 G2 H2 σ2 ρ2 S2 R3 o3 f => ?_, E2.rt, fun _ _ _ _ _ _ _ _ _ _ => trivial⟩
      · exact E2.nx EX2 G2 H2 _ _ S2 (R3.unset i) (fun b q => o3 b (own_unset q)) f
      · exact E2.bk EX2 G2 H2 _ _ S2 (R3.unset i) (fun b q => o3 b (own_unset q)) f
      · exact E2.ct EX2 G2 H2 _ _ S2 (R3.unset i) (fun b q => o3 b (own_unset q)) f
    · unfold wHandle at hw
      rw [if_neg (by rw [hb]; decide)] at hw
      exact hw
theorem ms_try {body : List Stmt} {h0 : ExceptHandler} {pos : Pos} {tb : List (Addr × Obj) → (Value → Shared → Prop) → WX → TS} {wb : WS} {Wout : WX} (tk : Takes X Wout) (hN : X.N.Nodup)
    (hb : ∀ (Wx : WX) (pn : List (Addr × Obj)) (xe : Value → Shared → Prop), Takes (X.tr pn xe) Wx → PassesOwn (model X.prog X.w) X.A X.env xe → MSs (X.tr pn xe) (xiW X.K X.mg Wx) body (tb pn xe Wx) wb) (hk : HdW X cs sub (h0 :: hs) l lw)
    (hst : X.stack = X.env :: X.outer := by rfl) (hf : X.env.frame = some X.env.locals := by rfl) : MS X (xiW X.K X.mg Wout) (.Try body (h0 :: hs) [] [] pos) (fun D σ H => ∀ (pn : List (Addr × Obj)) (xe : Value → Shared → Prop), Takes (X.tr pn xe) (wHs X.K Wout D l) → PassesOwn (model X.prog X.w) X.A X.env xe → tb pn xe (wHs X.K Wout D l) D σ H) (wTry cs sub wb lw) :=
  ⟨ps_tryX (tb := fun Wx D σ H => ∀ (pn : List (Addr × Obj)) (xe : Value → Shared → Prop), Takes (X.tr pn xe) Wx → PassesOwn (model X.prog X.w) X.A X.env xe → tb pn xe Wx D σ H) hst hf hN tk (fun Wx pn xe t p => ⟨fun pins s σ H D I q => (hb Wx pn xe t p).ps.run pins s σ H D I (q pn xe t p)⟩) (hd_ok hk), fun EX G H σ ρ P R f D E pn xe t p => by
    have soT : SoS X.K (xiW X.K X.mg (wHs X.K Wout D l)) (tb pn xe (wHs X.K Wout D l)) wb := (hb _ pn xe t p).so
    exact soT EX G H σ ρ _ R f D ⟨E.nx, E.bk, E.ct, E.rt, fun EX' G' H' σ' ρ' x S R' o ⟨hx, hw⟩ cls d rx => so_handle hk E S R' o hx hw rx⟩⟩
end

/-! ### calls of such defs where nothing is let out -/
theorem zn_sky {B h : Heap} {l : List Env} {a L : Addr} {cls : Value} {d : Option Addr} (x : Sky B l a (L2N.Zn cls d) L h) : Sky B l a (Zc cls d) L h := by
  have tr : ∀ {fl : Value}, HandSPX.TracedZ h B a (L2N.Zn cls d) fl → HandSPX.TracedZ h B a (Zc cls d) fl := fun ⟨oe, vs, T, oT, ts, q1, q2, q3⟩ => ⟨oe, vs, T, oT, ts, q1, q2.zc, q3⟩
  rcases x with ⟨h1, h2, h3, oe, vs, q1, q2, q3⟩ | ⟨h1, h2, h3, t⟩ | ⟨h1, h2, h3, t⟩
  · exact .inl ⟨h1, h2, h3, oe, vs, q1, q2.zc, q3⟩
  · exact .inr (.inl ⟨h1, h2, h3, tr t⟩)
  · exact .inr (.inr ⟨h1, h2, h3, tr t⟩)
theorem takesN {X : Cx} {Wx : WX} (tk : Takes X Wx) : L2N.Takes X Wx := fun u s' ⟨a, B, sI, pins, σ, H, cls, d, e, I, nb, up, sky, r⟩ => tk u s' ⟨a, B, sI, pins, σ, H, cls, d, e, I, nb, up, zn_sky sky, r⟩
theorem takes_no {X : Cx} : Takes X (fun _ _ _ _ => False) := fun _ _ ⟨_, _, _, _, _, _, _, _, _, _, _, _, _, _, _, _, w⟩ => w.elim
abbrev xiF (K : PySem.W.Frag) (mg : Str → Option Value) : XI := xiW K mg fun _ _ _ _ => False
theorem Clx.cl {P : Program} {w : World} {K : PySem.W.Frag} {mg : Str → Option Value} {base : Heap} {k n : Nat} {x : Str} {F : FX} {F' : FW} (c : Clx P w K mg base k x n F) (h : ∀ ws Φ, F' ws Φ → F ws Φ fun _ => False) : Cl P w K mg base k x n F' := by
  obtain ⟨f, fd, ps, h1, h2, h3⟩ := c.ex
  refine ⟨f, fd, ps, h1, ⟨fun A outer s H args us vs Q hr hg e0 hb hv sp => ?_⟩, h3⟩
  obtain ⟨hl, EX, G, ws, Φ, gd, rw0, hF, hQ⟩ := sp
  refine codeAny_mono (h2.run A outer s H args us vs Q E0 hr hg e0 hb hv ⟨hl, EX, G, ws, Φ, fun _ => False, gd, rw0, h ws Φ hF, hQ, fun _ _ _ _ _ _ _ _ _ q => q.elim⟩) fun r s' q => ?_
  cases r with
  | error er =>
    obtain ⟨_, _, _, _, _, _, _, _, _, _, _, _, z⟩ := q
    exact z.elim
  | ok fl =>
    cases fl with
    | ret u => exact q
    | next => exact q.elim
    | brk => exact q.elim
    | cont => exact q.elim
end Pd
end

section
set_option Elab.async false
set_option linter.all false
set_option maxRecDepth 100000
set_option autoImplicit false
set_option maxHeartbeats 4000000
/-! Pd, raise, with its reading told -/
namespace Pd
open PySem PySem.Spec PyProof.Rows L2 PySem.PdX
noncomputable def oeC {P : Program} {w : World} {K : PySem.W.Frag} {mg : Str → Option Value} {base : Heap} {x : Str} {fl : List Str} (o : Oe P w K mg base x fl) : Addr := o.ex.choose
theorem ms_raiseC {X : Cx} {c : Str} {fl : List Str} {e : Expr} {es : List Expr} {tA : TA} {wA : WA} {p cp pos : Pos} {Wx : WX} (o : Oe X.prog X.w X.K X.mg X.base c fl) (hr : Room 2 X.A) (tk : L2N.Takes X Wx) (ha : MA X (e :: es) tA wA) (hc : X.calm = true := by rfl) (hg : Gl X c := by rfl)
    (hdb : (c == ("__debug__" : Str)) = false := by decide) (he : starEach (e :: es) X.env = (false, eval e X.env) :: starEach es X.env := by rfl) (hpl : (backTo cp (starEach es X.env)).any (·.1) = false := by rfl) :
    MS X (xiW X.K X.mg Wx) (.Raise (some (.Call (.Name c p) (e :: es) [] cp)) none pos) (fun _ σ H => tMkX (oeC o) fl tA σ H fun cls d H' => Wx cls d σ H') (wRaise c fl wA) := by
  obtain ⟨fI, fd, ps, B, hm, T, iC, tI, F1, hb, hps, hfl, hne⟩ := o.ex.choose_spec
  refine ⟨L2N.ps_raise hc tk (pmk_x (j := 0) T iC tI F1 hr hb hps hfl hg hm ha.pa hdb he hpl), fun EX G H σ ρ P R f D E => ?_⟩
  refine ha.so EX G H σ ρ _ R f _ fun vs G1 H1 rs S1 rvs f1 => ?_
  split at f1
  · rename_i ds hd
    have dd := dats_dd rvs hd
    obtain ⟨hl, fx⟩ := f1
    refine ⟨by rw [dpLen dd]; exact hl, fun d hd => ?_⟩
    have S2 := (R.toGd.step S1).new (p := d) (o := .xd (fl.zip vs).reverse) hd
    exact E.ex EX _ _ σ ρ _ (S1.trans S2).s ((R.step S1).step S2) (fun _ h => .inl h) fx _ (some d) ⟨_, d, _, hm, rfl, rfl, upd_same, paired_rev (fld_zip (dpsMono S2.gg _ _ dd))⟩
  · exact f1.elim
end Pd
end

section
set_option Elab.async false
set_option linter.all false
set_option maxRecDepth 100000
set_option autoImplicit false
set_option maxHeartbeats 4000000
/-! Pd, further words: chains of comparisons, constants of the module, list.index, list.count, lists put together, calls of a local name -/
namespace Pd
open PySem PySem.Spec PyProof.Rows L2 PySem.PdX
variable {ξ : XI}
section
variable {X : Cx} {a b c e : Expr} {es : List Expr} {ta tb tc te tk : TE} {tA : TA} {wa wb wc we wk : WE} {wA : WA} {uA : WAX} {pos p p' apos cpos : Pos}
/-! a < b < c -/
def wChain (f g : F2) (wa wb wc : WE) : WE := fun ρ Φ => wa ρ fun x => wb ρ fun y => f x y fun z => match z with
  | .d (.bool k) => if k = true then wc ρ fun u => g y u Φ else Φ (.d (.bool false))
  | _ => False
theorem so_chain {K : PySem.W.Frag} {r r' : R2} {f g : F2} (hf : OpS K r f) (hg : OpS K r' g) (ha : SoE K ta wa) (hb : SoE K tb wb) (hc : SoE K tc wc) : SoE K (tChain r r' ta tb tc) (wChain f g wa wb wc) := fun EX G H σ ρ Φ R fw Q q =>
  ha EX G H σ ρ _ R fw _ fun v G1 H1 x S1 rv f1 => hb EX G1 H1 σ ρ _ (R.step S1) f1 _ fun u G2 H2 y S2 ru f2 =>
    hf EX G2 H2 v u x y _ ((R.step S1).step S2).toGd (rwMono S2.gg (fun _ _ h => h) rv) ru f2 _ fun z G3 H3 d S3 rd f3 => by
      obtain ⟨k, rfl, f4⟩ : ∃ k, d = .d (.bool k) ∧ (if k = true then wc ρ fun u => g y u Φ else Φ (.d (.bool false))) := by
        split at f3
        · exact ⟨_, rfl, f3⟩
        · exact f3.elim
      refine ⟨k, rwBool rd, ?_⟩
      cases k with
      | true =>
        simp only [if_true] at f4 ⊢
        exact hc EX G3 H3 σ ρ _ (((R.step S1).step S2).step S3) f4 _ fun n G4 H4 m S4 rm f5 => hg EX G4 H4 u n y m Φ ((((R.step S1).step S2).step S3).step S4).toGd (rwMono (S3.trans S4).gg (fun _ _ h => h) ru) rm f5 Q fun z G5 H5 o S5 ro f6 =>
          q z G5 H5 o ((((S1.trans S2).trans S3).trans S4).trans S5) ro f6
      | false =>
        simp only [Bool.false_eq_true, if_false] at f4 ⊢
        exact q _ G3 H3 (.d (.bool false)) ((S1.trans S2).trans S3) (Dd.bl false) f4
theorem me_chain {op op' : CmpOp} {r r' : R2} {f g : F2} (h : OpM X (compareOp op) r f) (h' : OpM X (compareOp op') r' g) (ha : ME X a ta wa) (hb : ME X b tb wb) (hc : ME X c tc wc) (hm : lastMarks [op, op'] [b, c] = false := by with_unfolding_all rfl) :
    ME X (.Compare a [op, op'] [b, c] pos) (tChain r r' ta tb tc) (wChain f g wa wb wc) := ⟨pe_chain h.op h'.op ha.pe hb.pe hc.pe hm, so_chain h.so h'.so ha.so hb.so hc.so⟩
theorem mt_chain {op op' : CmpOp} {r r' : R2} {f g : F2} (h : OpM X (compareOp op) r f) (h' : OpM X (compareOp op') r' g) (ha : ME X a ta wa) (hb : ME X b tb wb) (hc : ME X c tc wc) (hm : lastMarks [op, op'] [b, c] = false := by with_unfolding_all rfl) :
    MT X (.Compare a [op, op'] [b, c] pos) (tTest (tChain r r' ta tb tc)) (wB (wChain f g wa wb wc)) := ⟨pt_chain h.op h'.op ha.pe hb.pe hc.pe hm, so_B (so_chain h.so h'.so ha.so hb.so hc.so)⟩
/-! constants of the module; defs as values -/
theorem me_gi {x : Str} {i : Int} (h : ∃ t, X.mg x = some (.int i t)) (hg : Gl X x := by rfl) (hd : (x == ("__debug__" : Str)) = false := by decide) : ME X (.Name x pos) (tC (.int i)) (wC (.d (.int i))) := by
  obtain ⟨t, hm⟩ := h
  exact ⟨pe_glob hg hm ⟨t, rfl⟩ hd, so_c fun _ _ => .int i⟩
theorem me_gs {x y : Str} (h : ∃ t, X.mg x = some (.str y t)) (hy : SOk y) (hg : Gl X x := by rfl) (hd : (x == ("__debug__" : Str)) = false := by decide) : ME X (.Name x pos) (tC (.str y)) (wC (.d (.str y))) := by
  obtain ⟨t, hm⟩ := h
  exact ⟨pe_glob hg hm ⟨t, rfl⟩ hd, so_c fun _ _ => .str y hy⟩
theorem me_gf {x : Str} {f : Addr} (hm : X.mg x = some (.ref f)) (hg : Gl X x := by rfl) (hd : (x == ("__debug__" : Str)) = false := by decide) : ME X (.Name x pos) (tC (.ref f)) (wC (.f f)) := ⟨pe_glob hg hm rfl hd, so_c fun _ _ => rfl⟩
/-! list + list, as an own list -/
def wCat (wa wb : WE) : WD := fun ρ Φ => wa ρ fun x => wb ρ fun y => match x, y with
  | .d (.list ds), .d (.list es) => ds.length + es.length ≤ sizeLine ∧ Φ (ds ++ es)
  | _, _ => False
theorem ml_cat (ha : ME X a ta wa) (hb : ME X b tb wb) : ML X (.BinOp a .Add b pos) (tOp rCat ta tb) (wCat wa wb) := ⟨pe_op op_cat ha.pe hb.pe, fun EX G H σ ρ Φ R f Q q =>
  ha.so EX G H σ ρ _ R f _ fun v G1 H1 x S1 rv f1 => hb.so EX G1 H1 σ ρ _ (R.step S1) f1 _ fun u G2 H2 y S2 ru f2 => by
    split at f2
    · rename_i ds es
      have R2 := ((R.step S1).step S2).toGd
      obtain ⟨a, xs, rfl, g1, d1⟩ := rwLst (rwMono (EX' := EX) S2.gg (fun _ _ h => h) rv)
      obtain ⟨b, ys, rfl, g2, d2⟩ := rwLst ru
      refine ⟨a, b, xs, ys, rfl, rfl, R2.sub _ _ g1, R2.sub _ _ g2, by rw [dpLen d1, dpLen d2]; exact f2.1, fun p hp => ?_⟩
      have S := S1.trans S2
      exact q p _ _ _ _ (S.trans (R2.newOut hp)) (S.fresh hp) (R2.free hp) (R2.notBox hp) upd_same (dpApp d1 d2) f2.2
    · exact f2.elim⟩
/-! list.index, of texts; list.count, of data -/
/-- a method of lists: the receiver, then one argument -/
def wLm (g : List D → W → (W → Prop) → Prop) (wa wk : WE) : WE := fun ρ Φ => wa ρ fun x => match x with
  | .d (.list ds) => wk ρ fun y => g ds y Φ
  | _ => False
theorem so_lm {K : PySem.W.Frag} {r : V → List V → Hp → VK → Prop} {g : List D → W → (W → Prop) → Prop} (hg : ∀ (EX : Ext) (G H : Hp) (a : Addr) (vs : List V) (ds : List D) (u : V) (y : W) (Φ : W → Prop), Gd K EX G H → G a = some (.lst vs) → DdAll K G vs ds → Rw K EX G u y → g ds y Φ →
      ∀ Q : VK, (∀ v G' H' r, Step EX G H G' H' → Rw K EX G' v r → Φ r → Q v H') → r (.ref a) [u] H Q) (ha : SoE K ta wa) (hk : SoE K tk wk) :
    SoE K (tBM K "list" r ta (tCons tk tNil)) (wLm g wa wk) := fun EX G H σ ρ Φ R f Q q =>
  ha EX G H σ ρ _ R f _ fun v G1 H1 x S1 rv f1 => by
    split at f1
    · rename_i ds
      obtain ⟨a, vs, rfl, g1, dd⟩ := rwLst rv
      refine ⟨.inl ⟨rfl, vs, .inl (.inl ((R.step S1).sub _ _ g1))⟩, hk EX G1 H1 σ ρ _ (R.step S1) f1 _ fun u G2 H2 y S2 ru f2 => ?_⟩
      exact hg EX G2 H2 a vs ds u y Φ ((R.step S1).step S2).toGd (S2.gg _ _ g1) (dpsMono S2.gg _ _ dd) ru f2 Q fun v G3 H3 r S3 rr f3 => q v G3 H3 r ((S1.trans S2).trans S3) rr f3
    · exact f1.elim
def gIdx (ds : List D) (y : W) (Φ : W → Prop) : Prop := match y with
  | .d (.str y) => (match strsD ds with
    | some xs => (match xs.findIdx? (· == y) with
      | some j => Φ (.d (.int j))
      | none => False)
    | none => False)
  | _ => False
theorem idx_ok {K : PySem.W.Frag} (EX : Ext) (G H : Hp) (a : Addr) (vs : List V) (ds : List D) (u : V) (y : W) (Φ : W → Prop) (R : Gd K EX G H) (g : G a = some (.lst vs)) (dd : DdAll K G vs ds) (ru : Rw K EX G u y) (f : gIdx ds y Φ) (Q : VK) (q : ∀ v G' H' r, Step EX G H G' H' → Rw K EX G' v r → Φ r → Q v H') : rIndex K (.ref a) [u] H Q := by
  unfold gIdx at f
  split at f
  · rename_i y
    obtain ⟨rfl, _⟩ := rwStr ru
    split at f
    · rename_i xs hxs
      split at f
      · rename_i j hj
        rw [strsD_eq hxs] at dd
        obtain ⟨rfl, so⟩ := strs_v dd
        obtain ⟨h1, h2, h3⟩ := List.findIdx?_eq_some_iff_getElem.mp hj
        refine ⟨a, xs.map V.str, .str y, j, .str xs[j], rfl, rfl, .inl (.inl (R.sub _ _ g)), rfl, ?_, by simp [h1], ?_, fun m z' hm hz => ?_, q _ G H (.d (.int j)) R.refl (Dd.int _) f⟩
        · rw [List.all_map, List.all_eq_true]
          intro x _
          rfl
        · show (xs[j] == y) = true
          simpa using h2
        · rw [List.getElem?_map] at hz
          have hmx : m < xs.length := by omega
          rw [List.getElem?_eq_getElem hmx] at hz
          cases hz
          show (xs[m] == y) = false
          have := h3 m hm
          simpa using this
      · exact f.elim
    · exact f.elim
  · exact f.elim
section
variable {arg : Expr}
theorem me_idx (ha : ME X a ta wa) (hk : ME X b tk wk) (hbase : attributeBase a "index" X.env (eval a X.env) = eval a X.env := by rfl)
    (hfew : ((backTo cpos (starEach [b] X.env)).all (fun x => !x.1) && (backToKw cpos (keywordEach [] X.env)).all (fun x => x.1.isSome) && decide (([b] : List Expr).length + ([] : List Keyword).length + (if ([] : List Keyword).isEmpty then 0 else 1) < 30)) = true := by rfl)
    (hline : (apos.endLine == cpos.line) = true := by rfl) (hst : starEach [b] X.env = (false, eval b X.env) :: starEach [] X.env := by rfl) (hplain : (backTo cpos (starEach [] X.env)).any (·.1) = false := by rfl) :
    ME X (.Call (.Attribute a "index" apos) [b] [] cpos) (tBM X.K "list" (rIndex X.K) ta (tCons tk tNil)) (wLm gIdx wa wk) :=
  ⟨pe_bm PySem.F.plainAttrs_list PySem.F.slot_list_index PySem.F.type_list_index mt_index ha.pe (pa_cons hk.pe pa_nil hst) hbase hfew hline hst hplain, so_lm idx_ok ha.so hk.so⟩
end
/-! list.count -/
def rCntD (K : PySem.W.Frag) : V → List V → Hp → VK → Prop := fun x xs H Q => ∃ (a : Addr) (vs : List V) (ds : List D) (y : V) (d : D), x = .ref a ∧ xs = [y] ∧ SqL K H a vs ∧ DpAll K H vs ds ∧ Dp K H y d ∧ PyData.canLayAll0 ds = true ∧ d.canLay0 = true ∧ min (PyData.depthAll ds) d.depth ≤ 60 ∧
  Q (.int ((ds.countP fun z => PyData.eqv z d : Nat) : Int)) H
theorem mt_cntD {k : Nat} (hr : Room k X.A) : MtR X "list.count" (rCntD X.K) := by
  intro pins s σ H x xs v us Q I rx rs h
  obtain ⟨a, vs, ds, y, d, rfl, rfl, hs, hds, hd, c1, c2, hm, q⟩ := h
  cases rx
  cases rs with
  | cons ry rt =>
    cases rt
    obtain ⟨its, rv, pl, hz⟩ := I.list hs
    obtain ⟨as, r1⟩ := Dp.readsAll I ds vs its hds rv
    obtain ⟨bs, r2⟩ := Dp.reads I d y _ hd ry
    have := hr.un
    refine SeqAt.count_list_data (vs := its.toArray) (xs := ds) (d := d) (as := as) (bs := bs) pl.isList (by simpa using r1) r2 (PyData.plainAll_of_canLay0 ds c1) (PyData.plain_of_canLay0 d c2) (by omega) ⟨.int _, H, I.tok _, ⟨_, rfl⟩, q⟩
def gCnt (ds : List D) (y : W) (Φ : W → Prop) : Prop := match y with
  | .d d => min (PyData.depthAll ds) d.depth ≤ 60 ∧ Φ (.d (.int ((ds.countP fun z => PyData.eqv z d : Nat) : Int)))
  | _ => False
theorem cnt_ok {K : PySem.W.Frag} (EX : Ext) (G H : Hp) (a : Addr) (vs : List V) (ds : List D) (u : V) (y : W) (Φ : W → Prop) (R : Gd K EX G H) (g : G a = some (.lst vs)) (dd : DdAll K G vs ds) (ru : Rw K EX G u y) (f : gCnt ds y Φ) (Q : VK) (q : ∀ v G' H' r, Step EX G H G' H' → Rw K EX G' v r → Φ r → Q v H') : rCntD K (.ref a) [u] H Q := by
  unfold gCnt at f
  split at f
  · rename_i d
    have du : Dd K G u d := ru
    exact ⟨a, vs, ds, u, d, rfl, rfl, .inl (.inl (R.sub _ _ g)), ddsDp _ _ (dpsMono R.sub _ _ dd), ddDp _ _ (dpMono R.sub _ _ du), ddsLay _ _ dd, ddLay _ _ du, f.1, q _ G H (.d (.int _)) R.refl (Dd.int _) f.2⟩
  · exact f.elim
theorem me_cnt {k : Nat} (hr : Room k X.A) (ha : ME X a ta wa) (hk : ME X b tk wk) (hbase : attributeBase a "count" X.env (eval a X.env) = eval a X.env := by rfl)
    (hfew : ((backTo cpos (starEach [b] X.env)).all (fun x => !x.1) && (backToKw cpos (keywordEach [] X.env)).all (fun x => x.1.isSome) && decide (([b] : List Expr).length + ([] : List Keyword).length + (if ([] : List Keyword).isEmpty then 0 else 1) < 30)) = true := by rfl)
    (hline : (apos.endLine == cpos.line) = true := by rfl) (hst : starEach [b] X.env = (false, eval b X.env) :: starEach [] X.env := by rfl) (hplain : (backTo cpos (starEach [] X.env)).any (·.1) = false := by rfl) :
    ME X (.Call (.Attribute a "count" apos) [b] [] cpos) (tBM X.K "list" (rCntD X.K) ta (tCons tk tNil)) (wLm gCnt wa wk) :=
  ⟨pe_bm PySem.F.plainAttrs_list PySem.F.slot_list_count PySem.F.type_list_count (mt_cntD hr) ha.pe (pa_cons hk.pe pa_nil hst) hbase hfew hline hst hplain, so_lm cnt_ok ha.so hk.so⟩
end
/-! ### a call of a local name -/
/-- what the slot may hold, and what is promised of it -/
abbrev SF := Addr → FX → Prop
structure HeldX (P : Program) (w : World) (K : PySem.W.Frag) (mg : Str → Option Value) (base : Heap) (k n : Nat) (S : SF) : Prop where
  at_ : ∀ f F, S f F → ∃ (fd : FuncData) (ps : List Str), ps.length = n ∧ FnX P w K mg base k f fd ps F ∧ PySem.W.keepIn K (.ref f) = true ∧ Binds K fd ps []
  len : ∀ f F, S f F → ∀ ws Φ Θ, F ws Φ Θ → ws.length = n
theorem HeldX.mono {P : Program} {w : World} {K : PySem.W.Frag} {mg : Str → Option Value} {base : Heap} {j k n : Nat} {S : SF} (h : HeldX P w K mg base j n S) (l : j ≤ k) : HeldX P w K mg base k n S :=
  ⟨fun f F hS => let ⟨fd, ps, h1, h2, h3⟩ := h.at_ f F hS; ⟨fd, ps, h1, h2.mono l, h3⟩, h.len⟩
section
variable {X : Cx} {x : Str} {k n : Nat} {S : SF} {e : Expr} {es : List Expr} {tA : TA} {uA : WAX} {p pos : Pos} {Wx : WX}
def tCallLX (K : PySem.W.Frag) (mg : Str → Option Value) (n i : Nat) (S : SF) (Wx : WX) (t : TA) : TE := fun σ H Q => ∃ f F, S f F ∧ σ[i]? = some (some (.ref f)) ∧ t σ H fun vs H1 => SpX K mg n F vs H1 Q fun cls d H' => Wx cls d σ H'
theorem pe_callLX (i : Nat) (c : HeldX X.prog X.w X.K X.mg X.base k n S) (tk : L2N.Takes X Wx) (hr : Room k X.A) (hgd : X.A.guards = some []) (hN : X.N[i]? = some x) (hv : Vis X.env.scope x) (ha : PA X (e :: es) tA) (hdb : (x == ("__debug__" : Str)) = false) (hcd : (x == ("__classdict__" : Str)) = false)
    (he : starEach (e :: es) X.env = (false, eval e X.env) :: starEach es X.env) (hpl : (backTo pos (starEach es X.env)).any (·.1) = false) : PE X (.Call (.Name x p) (e :: es) [] pos) (tCallLX X.K X.mg n i S Wx tA) := by
  constructor
  intro pins s σ H Q I ⟨f, F, hS, hs, h⟩
  obtain ⟨fd, ps, hn, hF, hk, hb⟩ := c.at_ f F hS
  subst hn
  refine wpAny_Call_Name_kw (thn ((pe_var (pos := p) hN hv hdb hcd).run pins s σ H (fun v H1 => v = .ref f ∧ H1 = H) I ⟨.ref f, hs, rfl, rfl⟩) fun u s0 ⟨v, H0, I0, r0, q0⟩ => ?_)
  obtain ⟨rfl, rfl⟩ := q0
  cases r0
  refine PySem.W.callWith_K (h₀ := X.base) I.ok.mod.kin hk (thn (ha.run pos pins s0 σ _ _ I0 h) fun us s1 ⟨vs, H1, I1, r, q⟩ => ⟨I1.kIn, wpAny_call ?_⟩) he hpl
  have hlen : (us ++ []).length = ps.length := by rw [List.append_nil, ← r.length]; exact q.1
  have hbb := hb s1 us I1.kIn hlen
  rw [List.append_nil] at hbb
  refine codeAny_mono (hF.run X.A X.stack s1 H1 ⟨us, []⟩ us vs Q _ hr hgd I1.env0 hbb r q) fun res s' hq => ?_
  match res, hq with
  | .ok (.ret u), hq => exact I1.after hq
  | .error er, hq => exact L2N.passAt tk σ pins H1 s1 er s' I1 hq
def xCallL (S : SF) (i : Nat) (uA : WAX) : WEX := fun ρ Φ Θ => ∃ f F, S f F ∧ ρ[i]? = some (.sh (.f f)) ∧ uA ρ (fun ws => F ws (dOnly Φ) Θ) Θ
theorem mex_callL (i : Nat) (c : HeldX X.prog X.w X.K X.mg X.base k n S) (tk : L2N.Takes X Wx) (hr : Room k X.A) (hgd : X.A.guards = some []) (ha : MAX X (xiW X.K X.mg Wx) (e :: es) tA uA) (hN : X.N[i]? = some x := by rfl)
    (hv : Vis X.env.scope x := by first | exact Or.inl rfl | exact Or.inr (Or.inl rfl) | exact Or.inr (Or.inr rfl)) (hdb : (x == ("__debug__" : Str)) = false := by decide) (hcd : (x == ("__classdict__" : Str)) = false := by decide)
    (he : starEach (e :: es) X.env = (false, eval e X.env) :: starEach es X.env := by rfl) (hpl : (backTo pos (starEach es X.env)).any (·.1) = false := by rfl) :
    MEX X (xiW X.K X.mg Wx) (.Call (.Name x p) (e :: es) [] pos) (tCallLX X.K X.mg n i S Wx tA) (xCallL S i uA) :=
  ⟨pe_callLX i c tk hr hgd hN hv ha.pa hdb hcd he hpl, fun EX G H σ ρ Φ Θ R f hx Q q => by
    obtain ⟨a, F, hS, e1, fA⟩ := f
    obtain ⟨v, e2, rv⟩ := R.var e1
    have rv' : v = .ref a := rv
    subst rv'
    refine ⟨a, F, hS, e2, ha.so EX G H σ ρ _ Θ R fA hx _ fun vs G1 H1 ws S1 rv f1 => ?_⟩
    refine ⟨(Paired.length rv).trans (c.len a F hS _ _ _ f1), EX, G1, ws, _, Θ, R.toGd.step S1, rv, f1, fun EX' G' H' v r S2 R2 rr fr => ?_, fun EX' G' H' cls d x S2 R2 rx fx => ?_⟩
    · have S12 := S1.trans (spD_step S2 R2)
      unfold dOnly at fr
      split at fr
      · exact q v G' H' (.d _) S12 rr fr
      · exact q v G' H' (.dk _) S12 rr fr
      · exact q v G' H' (.dt _) S12 rr fr
      · exact fr.elim
    · exact hx G' H' x (S1.trans (spD_step S2 R2)) fx cls d rx⟩
end
end Pd
end

section
set_option Elab.async false
set_option linter.all false
set_option maxRecDepth 100000
set_option autoImplicit false
set_option maxHeartbeats 4000000
/-! Pd, what the end needs of the classes -/
namespace Pd
open PySem PySem.Spec PyProof.Rows L2 PySem.PdX
section
variable {K : PySem.W.Frag} {mg : Str → Option Value} {x y : Str} {C D : Addr}
theorem kit_own {b : Bool} {oc : Value} {od : Option Addr} {cd : ClassData} {sl : Array (Option Value)} (l : K.lookup D = some ⟨oc, od, .cls cd, sl⟩) (t : PySem.W.typeIn K (.ref D) = some (.type "type")) (s : PySem.W.subIn K (.ref C) (.ref D) = some b) : PySem.W.kitCls K (.ref C) (.ref D) = some b := by
  have h : (PySem.W.clsIn K D).isSome = true := by
    unfold PySem.W.clsIn
    rw [l]
    rfl
  unfold PySem.W.kitCls
  simp only [h, t, beq_self_eq_true, Bool.and_self, if_true]
  exact s
theorem below_own {b : Bool} {oc : Value} {od : Option Addr} {cd : ClassData} {sl : Array (Option Value)} (hx : mg x = some (.ref C)) (hy : mg y = some (.ref D)) (l : K.lookup D = some ⟨oc, od, .cls cd, sl⟩) (t : PySem.W.typeIn K (.ref D) = some (.type "type"))
    (e : PySem.W.subIn K (.ref D) (.type "BaseException") = some true) (s : PySem.W.subIn K (.ref C) (.ref D) = some b) (ne : b = true ∨ (Value.ref C == Value.ref D) = false) : Below K mg x y b := by
  have k := kit_own l t s
  refine ⟨C, .ref D, .ref D, hx, .own hy, ?_, ?_⟩
  · unfold PySem.W.exmOne
    simp only [e, beq_self_eq_true, if_true]
    exact k
  · unfold PySem.W.kitOne
    split
    · rename_i h
      rcases ne with z | z
      · rw [z]
      · rw [z] at h
        cases h
    · exact k
theorem below_blt {b : Bool} {T : String} (hx : mg x = some (.ref C)) (hy : mg y = none) (hb : bootBuiltins y = some (.type T)) (hn : y ≠ "__name__") (km : PySem.W.kitMeta T = true) (e : PySem.W.subIn K (.type T) (.type "BaseException") = some true) (s : PySem.W.subIn K (.ref C) (.type T) = some b) : Below K mg x y b := by
  have k : PySem.W.kitCls K (.ref C) (.type T) = some b := by
    unfold PySem.W.kitCls
    simp only [km, if_true]
    exact s
  refine ⟨C, .ty T, .type T, hx, .blt hy hb hn, ?_, ?_⟩
  · unfold PySem.W.exmOne
    simp only [e, beq_self_eq_true, if_true]
    exact k
  · unfold PySem.W.kitOne
    split
    · rename_i h
      cases h
    · exact k
theorem held2 {P : Program} {w : World} {base : Heap} {k n : Nat} {A1 A2 : Addr} {F1 F2 : FX} (c1 : Clx P w K mg base k x n F1) (a1 : mg x = some (.ref A1)) (l1 : ∀ ws Φ Θ, F1 ws Φ Θ → ws.length = n) (c2 : Clx P w K mg base k y n F2) (a2 : mg y = some (.ref A2)) (l2 : ∀ ws Φ Θ, F2 ws Φ Θ → ws.length = n) :
    HeldX P w K mg base k n (fun f F => (f = A1 ∧ F = F1) ∨ (f = A2 ∧ F = F2)) where
  at_ := fun f F h => by
    rcases h with ⟨rfl, rfl⟩ | ⟨rfl, rfl⟩
    · obtain ⟨f, fd, ps, h1, h2, h3, h4, h5⟩ := c1.ex
      rw [a1] at h3
      cases h3
      exact ⟨fd, ps, h1, h2, h4, h5⟩
    · obtain ⟨f, fd, ps, h1, h2, h3, h4, h5⟩ := c2.ex
      rw [a2] at h3
      cases h3
      exact ⟨fd, ps, h1, h2, h4, h5⟩
  len := fun f F h => by
    rcases h with ⟨rfl, rfl⟩ | ⟨rfl, rfl⟩
    · exact l1
    · exact l2
/-- what is read of an own exception class -/
structure ClsX (K : PySem.W.Frag) (C : Addr) (B : String) : Prop where
  oe : OeK K C B
  ga : PySem.W.findIn K (.ref C) "__getattribute__" = some (some (.builtin "BaseException.__getattribute__"))
  gg : PySem.W.findIn K (.ref C) "__getattr__" = some none
  hd : PySem.W.hasDictIn K C = true
  cl : PySem.W.findIn K (.ref C) "__class__" = some (some (.builtin "object.__class__"))
  mo : PySem.W.mroIn K C (.type "object") = some true
  sp : PySem.W.specialIn K (.builtin "object.__class__") "__get__" = some (some (.builtin "getset_descriptor.__get__"))
  tk : PySem.W.takesIn K (.builtin "object.__class__") = some true
theorem ClsX.xf {B : String} (c : ClsX K C B) : XfC K C := ⟨c.ga, c.gg, c.oe.exC, c.hd⟩
theorem ClsX.ex {B : String} (c : ClsX K C B) : ExcC K C := ⟨c.ga, c.gg, c.oe.exC, c.hd, c.cl, c.sp, c.tk, c.mo⟩
section
variable {nm q : Str} {N : Addr} {bs bm : List Value} {sn : List Str} {sub : List Value} {ab : Bool} {col : Option Bool} {dd : Option Addr} {k0 k1 k2 k3 k5 : Option Value}
theorem oek_K (l : K.lookup C = some (excClassObj nm q C N bs bm true sn sub ab col dd k0 k1 k2 k3 k5 "LookupError.__new__")) (r : refsT keTail bm = true) (sa : PySem.W.findIn K (.ref C) "__setattr__" = some (some (.builtin "object.__setattr__")))
    (e : PySem.W.subIn K (.ref C) (.type "BaseException") = some true) (t : PySem.W.typeIn K (.ref C) = some (.type "type")) (k : PySem.W.keepIn K (.ref C) = true) : OeK K C "KeyError.__init__" :=
  ⟨⟨_, _, _, _, _, _, _, _, _, _, _, _, _, _, _, _, _, _, _, xbK, l, r⟩, sa, e, t, k⟩
theorem oek_V (l : K.lookup C = some (excClassObj nm q C N bs bm true sn sub ab col dd k0 k1 k2 k3 k5 "ValueError.__new__")) (r : refsT PySem.HandSPX.veTail bm = true) (sa : PySem.W.findIn K (.ref C) "__setattr__" = some (some (.builtin "object.__setattr__")))
    (e : PySem.W.subIn K (.ref C) (.type "BaseException") = some true) (t : PySem.W.typeIn K (.ref C) = some (.type "type")) (k : PySem.W.keepIn K (.ref C) = true) : OeK K C "ValueError.__init__" :=
  ⟨⟨_, _, _, _, _, _, _, _, _, _, _, _, _, _, _, _, _, _, _, xbV, l, r⟩, sa, e, t, k⟩
end
/-- the class that the errors' classes stand under, as they call its __init__ -/
structure BaseX (K : PySem.W.Frag) (mg : Str → Option Value) (x : Str) : Prop where
  ex : ∃ D, mg x = some (.ref D) ∧ PySem.W.specialIn K (.ref D) "__getattribute__" = some (some (.builtin "type.__getattribute__")) ∧ PySem.W.readsIn K D (.type "type") = true ∧ PySem.W.findCls K (.ref D) (.type "type") "__init__" = some (.val (.builtin "ValueError.__init__"))
end
end Pd
end

section
set_option Elab.async false
set_option linter.all false
set_option maxRecDepth 100000
set_option autoImplicit false
set_option maxHeartbeats 4000000
/-! Pd, repr of truths -/
namespace Pd
open PySem PySem.Spec PyProof.Rows L2
def oReprV : FA := fun ws Φ => match ws with
  | [.d (.bool b)] => Φ (.rp (.bool b))
  | _ => oRepr ws Φ
def rReprV (K : PySem.W.Frag) : List V → Hp → VK → Prop := fun xs H Q => (∃ b, xs = [.bl b] ∧ Q (.str (PyData.shown (.bool b))) H) ∨ rReprD K xs H Q
theorem shown_bool (b : Bool) : PyData.shown (.bool b) = if b then Str.ofString "True" else Str.ofString "False" := by
  rw [PyData.shown]
theorem cm_reprV {X : Cx} {k : Nat} (hr : Room k X.A) (hg : X.A.guards = some []) : CallM X (.builtin "repr") (rReprV X.K) oReprV := by
  refine ⟨fun pins s σ H xs us Q I r h => ?_, fun EX G H xs ws Φ R hw f Q q => ?_⟩
  · rcases h with ⟨b, rfl, q⟩ | h
    · obtain ⟨u, rfl, ru⟩ := vals1 r
      have e : u = .bool b := ru
      subst e
      rw [shown_bool] at q
      exact PySem.P.repr_of_bool ⟨.str _, H, I.tok _, ⟨_, rfl⟩, q⟩
    · exact (cm_repr (X := X) hr hg).op pins s σ H xs us Q I r h
  · unfold oReprV at f
    split at f
    · rename_i b
      obtain ⟨x, rfl, rx⟩ := rw1 hw
      have e := rwBool rx
      subst e
      exact .inl ⟨b, rfl, q _ G H (.rp (.bool b)) R.refl rfl f⟩
    · exact .inr ((cm_repr (X := X) hr hg).so EX G H xs ws Φ R hw f Q q)
theorem ev_reprB {b : Bool} {Φ : W → Prop} : oReprV [.d (.bool b)] Φ = Φ (.rp (.bool b)) := rfl
theorem ev_reprT {xs : List D} {Φ : W → Prop} : oReprV [.d (.tuple xs)] Φ = (reprOk (.tuple xs) = true ∧ Φ (.rp (.tuple xs))) := rfl
end Pd
end

section
set_option Elab.async false
set_option linter.all false
set_option maxRecDepth 100000
set_option autoImplicit false
set_option maxHeartbeats 4000000
/-! Pd, enumerate over a tuple -/
namespace PySem.PdEn
open PySem PySem.Spec PyProof.Rows L2 PySem.Calls
theorem meets_enum1 {v : Value} {o : Obj} {H : Heap → Prop} (B : Begins v o H) :
    Meets (Builtin.«enumerate.__new__» ⟨[.type "enumerate", v], []⟩) (fun _ R s => H s.heap ∧
      R (.ok (.ret (.ref (s.heap.push o).objs.size))) { s with heap := (s.heap.push o).push { cls := .type "enumerate", data := .fields #[.none, .bool false, .ref s.heap.objs.size, rawInt 0, .none, .none] } }) :=
  .of_wp fun prog w A R s h => by
    obtain ⟨hp, g, d, tk, os⟩ := s
    obtain ⟨hH, fin⟩ := h
    have sb := sub_enumerate
    have begun : ∀ {A' : Around} {E : Value → Shared → Prop} {Q : Value → Shared → Prop}, Q (.ref hp.objs.size) ⟨hp.push o, g, d, tk, os⟩ → wpAny (model prog w) A' (pyIter v) Q E ⟨hp, g, d, tk, os⟩ :=
      fun y => B.iter prog w _ _ ⟨hp, g, d, tk, os⟩ _ hH y
    wp_walk using begun
    refine wpAny_stack_any fun st => wpAny_pure ?_
    split
    · rename_i c _ _ _ _ _
      cases (c == Value.type "enumerate")
      · wp_walk using begun
        exact ⟨_, rfl, fin⟩
      · wp_walk using begun
        exact ⟨_, rfl, fin⟩
    · wp_walk using begun
      exact ⟨_, rfl, fin⟩
section
variable {prog : Program} {w : World} {A : Around} {E : Value → Shared → Prop} {s : Shared}
/-- enumerate(v): its two cells -/
theorem enum_one {v : Value} {o : Obj} {H : Heap → Prop} {Q : Value → Shared → Prop} (B : Begins v o H) (hH : H s.heap)
    (h : ∀ h', IsEnum h' (s.heap.objs.size + 1) s.heap.objs.size 0 .none → h'.get? s.heap.objs.size = some o → (∀ b o, s.heap.get? b = some o → h'.get? b = some o) → Q (.ref (s.heap.objs.size + 1)) { s with heap := h' }) :
    wpAny (model prog w) A (call (.type "enumerate") [v]) Q E s := by
  refine callType_new F.called_enumerate (by decide) (F.typeCall_enumerate_1 _) (F.newCall_enumerate_1 _) (fun obj => F.args_object_init_2 obj _) F.entry_enumerate_new (meets_enum1 B) ⟨hH, ?_⟩
  have size1 : (s.heap.push o).objs.size = s.heap.objs.size + 1 := Heap.size_push ..
  show _ ∧ _
  rw [size1]
  have cell : IsEnum ((s.heap.push o).push { cls := .type "enumerate", data := .fields #[.none, .bool false, .ref s.heap.objs.size, rawInt 0, .none, .none] }) (s.heap.objs.size + 1) s.heap.objs.size 0 .none := by
    have at_ := Heap.get?_push_size (s.heap.push o) (o := { cls := .type "enumerate", data := .fields #[.none, .bool false, .ref s.heap.objs.size, rawInt 0, .none, .none] }) rfl
    rw [size1] at at_
    exact at_
  exact ⟨⟨_, cell, rfl⟩, h _ cell (Heap.get?_push_of_some _ (Heap.get?_push_size _ B.free)) fun b o x => Heap.get?_push_of_some _ (Heap.get?_push_of_some _ x)⟩
end
/-- the tuple at a as it stands at each turn, each item in a new pair -/
def IteT (K : PySem.W.Frag) (a : Addr) : It :=
  ⟨fun i H => ∃ (xs : List V) (x : V), SqT K H a xs ∧ xs[i]? = some x, fun i H v H' => ∃ T x, v = .ref T ∧ H T = none ∧ H' = upd H T (.tup [.int (i : Nat), x]) ∧ ∀ xs, SqT K H a xs → xs[i]? = some x, fun i H => ∃ xs : List V, SqT K H a xs ∧ xs.length ≤ i⟩
theorem turn_enumT {P : Program} {w : World} {K : PySem.W.Frag} {elts : List Expr} {kk : Nat} {tpos : Pos} (a e it : Addr) (ha : a ≠ it) (hae : a ≠ e) :
    Turn P w K (.Tuple elts kk tpos) (IteT K a) [e, it] e (fun i h => (∃ old, IsEnum h e it ((i : Nat) : Int) old) ∧ h.IsTupleIter it a i ∧ e ≠ it) where
  mem := by simp
  obj := fun i h st b hb => by
    obtain ⟨⟨old, he⟩, ⟨o, ho, _, hd⟩, _⟩ := st
    have two : b = e ∨ b = it := by simpa using hb
    rcases two with z | z
    · rw [z]
      exact ⟨_, he, fun v q => nomatch q⟩
    · rw [z]
      exact ⟨o, ho, fun v q => by rw [hd] at q; cases q⟩
  keep := fun i h h' st k => by
    obtain ⟨⟨old, he⟩, hi, hne⟩ := st
    exact ⟨⟨old, k e (by simp) _ he⟩, hi.at fun o q => k it (by simp) o q, hne⟩
  item := by
    intro X hP hw hK hc i pins s σ H E I hf st hg
    subst hP hw hK
    obtain ⟨⟨old, he⟩, hit, hne⟩ := st
    obtain ⟨xs, x, hq, hx⟩ := hg
    obtain ⟨its, rv, p, hz⟩ := I.tuple hq
    obtain ⟨u, hu, ru⟩ := rv.get hx
    have hel : e < s.heap.objs.size := Heap.lt_size he
    have hil : it < s.heap.objs.size := by
      obtain ⟨_, q, _⟩ := hit
      exact Heap.lt_size q
    have hlt : i < its.toArray.size := by
      have := (List.getElem?_eq_some_iff.mp hu).1
      simpa using this
    have DT : Draws X.prog X.w X.A.in1 it [it, a] its.toArray.size (fun i v => its.toArray[i]? = some v) (fun i h => h.IsTupleIter it a i ∧ h.IsTuple a its.toArray) := Draws.tuple (A := X.A.in1) (I.ok.hd hc) it a ha its.toArray
    refine wpAny_pyNext_enum_itemD DT he ⟨hit, p⟩ hlt hne (by simp [hne, Ne.symm hae]) fun v h' tk hv ho hst hT hsz hk => ?_
    have ev : v = u := by
      have : its.toArray[i]? = some u := by simpa using hu
      rw [this] at hv
      exact (Option.some.inj hv).symm
    subst ev
    refine ⟨_, rfl, wpAny_letOwnedTupleGo_enum (s := { s with heap := h', toks := tk + 1 }) ho fun h'' he' sb => ?_⟩
    have hT2 : h''.get? s.heap.objs.size = some { cls := .type "tuple", data := .seq #[.int i tk, v] } := (sb.2 _ (Nat.ne_of_gt hel)).trans hT
    have new : ObjOk X.prog X.w (upd H s.heap.objs.size (.tup [.int (i : Nat), x])) h'' s.heap.objs.size (.tup [.int (i : Nat), x]) :=
      ⟨by show 2 ≤ sizeLine; decide, [.int i tk, v], .cons ⟨_, rfl⟩ (.cons ru .nil), ⟨_, hT2, rfl, _, rfl⟩⟩
    have I1 : Inv X pins σ (upd H s.heap.objs.size (.tup [.int (i : Nat), x])) { s with heap := h'', toks := tk + 1 } :=
      I.turnedNew (ch := [e, it]) (fun b ob hb q => (sb.2 b (fun z => hb (by simp [z]))).trans (hk b ob (fun z => hb (by simp [z])) (fun z => hb (by simp [z])) q)) hf (Nat.le_refl _) new
    refine ⟨.ref s.heap.objs.size, _, I1, rfl, ⟨_, x, rfl, I.hok.fresh (Nat.le_refl _), rfl, fun ys hy => by rw [I.tuple_inj hy hq]; exact hx⟩, ⟨⟨v, ?_⟩, hst.1.at fun o q => (sb.2 it (Ne.symm hne)).trans q, hne⟩, fun b hb => ?_⟩
    · have e1 : ((i + 1 : Nat) : Int) = (i : Int) + 1 := by omega
      rw [e1]
      exact he'
    · have hb' : b < s.heap.objs.size := by
        have two : b = e ∨ b = it := by simpa using hb
        rcases two with z | z
        · rw [z]; exact hel
        · rw [z]; exact hil
      rw [upd_ne (Nat.ne_of_lt hb')]
      exact (hf b hb).1
  done := by
    intro X hP hw hK hc i pins s σ H E I hf st hg
    subst hP hw hK
    obtain ⟨⟨old, he⟩, hit, hne⟩ := st
    obtain ⟨xs, hq, hx⟩ := hg
    obtain ⟨its, rv, p, hz⟩ := I.tuple hq
    obtain ⟨f0, f1, f2, f3, f4, f5⟩ := hf it (by simp)
    have hl := rv.length
    have DE : Draws X.prog X.w X.A.in1 it [it, a] 0 (fun _ _ => False) (fun _ h => h.IsTupleIter it a i ∧ h.IsTuple a its.toArray) :=
      ⟨fun _ _ st => let ⟨o, ho, _⟩ := st.1; ⟨o, ho⟩, fun _ _ _ st k => ⟨st.1.at fun o y => k it (by simp) o y, st.2.at fun o y => k a (by simp) o y⟩, fun _ _ _ _ lt => absurd lt (Nat.not_lt_zero _),
        fun s Q E st fin => wpAny_nextOf_tuple_end (A := X.A.in1) (I.ok.hd hc) st.1 st.2 (by simp; omega) fin⟩
    exact wpAny_pyNext_enum_endD DE he ⟨hit, p⟩ fun h' eb => ⟨rfl, I.turned (t' := s.toks) (fun b o hb q => eb b o hb q) f0 f1 f3 f4 f5⟩
  self := fun A i s Q E st h => by
    obtain ⟨⟨_, he⟩, _⟩ := st
    exact wpAny_pyIter_enum he h
end PySem.PdEn
end

section
set_option Elab.async false
set_option linter.all false
set_option maxRecDepth 100000
set_option autoImplicit false
set_option maxHeartbeats 4000000
/-! Pd, enumerate of a list or of a tuple, over data -/
namespace Pd
open PySem PySem.Spec PyProof.Rows L2 PySem.PdEn PySem.Calls
def iEnumA (K : PySem.W.Frag) (ta : TA) : TI := fun σ H R => ta σ H fun vs H1 => ∃ a xs, vs = [.ref a] ∧ ((SqL K H1 a xs ∧ R (Ite K a) H1) ∨ (SqT K H1 a xs ∧ R (IteT K a) H1))
theorem pi_enumA {X : Cx} {e : Expr} {ta : TA} {p pos tpos : Pos} {elts : List Expr} {kk : Nat} (hg : Gl X "enumerate") (hm : X.mg "enumerate" = none) (ha : PA X [e] ta) (hs : starEach [e] X.env = [(false, eval e X.env)] := by rfl) :
    PI X (.Tuple elts kk tpos) (.Call (.Name "enumerate" p) [e] [] pos) (iEnumA X.K ta) := by
  refine ⟨fun pins s σ H R I h => ?_⟩
  refine Call_ (ld_blt I hg hm boot_enumerate (PyProof.Rows.callWith_type1 (thn (ha.run pos pins s σ H _ I h) fun us s1 ⟨vs, H1, I1, r1, q1⟩ => ?_) hs rfl))
  obtain ⟨a, xs, ex, q1⟩ := q1
  subst ex
  cases r1 with
  | cons r rr =>
    cases rr
    cases r
    have fp : ∀ b, b ∈ [s1.heap.objs.size + 1, s1.heap.objs.size] → s1.heap.objs.size ≤ b := fun b hb => by
      have two : b = s1.heap.objs.size + 1 ∨ b = s1.heap.objs.size := by simpa using hb
      rcases two with z | z
      · rw [z]; exact Nat.le_add_right _ _
      · rw [z]; exact Nat.le_refl _
    rcases q1 with ⟨hq, q⟩ | ⟨hq, q⟩
    · obtain ⟨its, rv, p', hz⟩ := I1.list hq
      refine call_enumerate_list p'.isList fun h' he hit hsz hk => wpAny_pyIter_enum he ?_
      have I2 : Inv X pins σ H1 { s1 with heap := h' } := I1.kept (t' := s1.toks) hk
      exact ⟨s1.heap.objs.size + 1, [s1.heap.objs.size + 1, s1.heap.objs.size], _, _, H1, rfl, I2, turn_enum a (s1.heap.objs.size + 1) s1.heap.objs.size, ⟨⟨.none, he⟩, hit, Nat.succ_ne_self _⟩, fun b hb => I1.fpOk (fp b hb) (I1.hok.fresh (fp b hb)), q⟩
    · obtain ⟨its, rv, p', hz⟩ := I1.tuple hq
      have hal : a < s1.heap.objs.size := by
        obtain ⟨_, y, _⟩ := p'
        exact Heap.lt_size y
      refine enum_one (begins_tuple a its.toArray) p' fun h' he hit hk => wpAny_pyIter_enum he ?_
      have I2 : Inv X pins σ H1 { s1 with heap := h' } := I1.kept (t' := s1.toks) hk
      exact ⟨s1.heap.objs.size + 1, [s1.heap.objs.size + 1, s1.heap.objs.size], _, _, H1, rfl, I2, turn_enumT a (s1.heap.objs.size + 1) s1.heap.objs.size (Nat.ne_of_lt hal) (Nat.ne_of_lt (Nat.lt_succ_of_lt hal)), ⟨⟨.none, he⟩, ⟨_, hit, rfl, rfl⟩, Nat.succ_ne_self _⟩, fun b hb => I1.fpOk (fp b hb) (I1.hok.fresh (fp b hb)), q⟩
section
variable {X : Cx} {a : Expr} {tA : TA} {wA : WA} {p pos : Pos}
theorem walk_et {K : PySem.W.Frag} {EX : Ext} {G : Hp} {a : Addr} {vs : List V} {ds : List D} (g : G a = some (.tup vs)) (dd : DdAll K G vs ds) : Walk K EX (IteT K a) G (enumD 0 ds) := fun EX' Gc H eb s R i => by
  have ha : SqT K H a vs := .inl (.inl (R.sub _ _ (s _ _ g)))
  refine ⟨fun h => ⟨vs, ha, ?_⟩, fun d e => ?_⟩
  · rw [enumD_len] at h
    rw [dpLen dd]
    exact h
  · obtain ⟨x, e1, rfl⟩ := enumD_get e
    obtain ⟨v, q1, d1⟩ := dpGet dd e1
    refine ⟨⟨vs, v, ha, q1⟩, fun z H' y' => ?_⟩
    obtain ⟨T, x', rfl, nT, rfl, f1⟩ := y'
    have ex : x' = v := Option.some.inj ((f1 _ ha).symm.trans q1)
    subst ex
    have S := R.new (p := T) (o := .tup [.int (i : Nat), x']) nT
    exact ⟨_, S, Dd.tup upd_same (.cons (by rw [Nat.zero_add]; exact Dd.int _) (.cons (dpMono (s.trans S.gg) _ _ d1) .nil))⟩
def wEnumA (wA : WA) : WD := fun ρ Φ => wA ρ fun ws => match ws with
  | [.d (.list x)] => Φ (enumD 0 x)
  | [.d (.tuple x)] => Φ (enumD 0 x)
  | _ => False
theorem mi_enumA {elts : List Expr} {kk : Nat} {tpos : Pos} (hm : X.mg "enumerate" = none) (hg : Gl X "enumerate" := by rfl) (ha : MA X [a] tA wA) (hs : starEach [a] X.env = [(false, eval a X.env)] := by rfl) :
    MI X (.Tuple elts kk tpos) (.Call (.Name "enumerate" p) [a] [] pos) (iEnumA X.K (bdA X.K tA)) (wEnumA wA) :=
  ⟨pi_enumA hg hm (pa_bd ha.pa) hs, fun EX G H σ ρ Φ R f Q q => ha.so EX G H σ ρ _ R f _ fun vs G1 H1 rs S1 rv f1 bd => by
    have R1 := R.toGd.step S1
    split at f1
    · obtain ⟨x, rfl, rx⟩ := rw1 rv
      obtain ⟨a, xs, rfl, g, dd⟩ := rwLst rx
      have ha : SqL X.K H1 a xs := .inl (.inl (R1.sub _ _ g))
      refine ⟨a, xs, rfl, .inl ⟨ha, q _ G1 H1 _ S1 (walk_e g dd) ?_ f1⟩⟩
      rw [enumD_len, ← dpLen dd]
      exact bd.l _ _ ha
    · obtain ⟨x, rfl, rx⟩ := rw1 rv
      obtain ⟨a, xs, rfl, g, dd⟩ := rwTup rx
      have ha : SqT X.K H1 a xs := .inl (.inl (R1.sub _ _ g))
      refine ⟨a, xs, rfl, .inr ⟨ha, q _ G1 H1 _ S1 (walk_et g dd) ?_ f1⟩⟩
      rw [enumD_len, ← dpLen dd]
      exact bd.t _ _ ha
    · exact f1.elim⟩
end
end Pd
end

section
set_option Elab.async false
set_option linter.all false
set_option maxRecDepth 100000
set_option autoImplicit false
set_option maxHeartbeats 4000000
/-! Pd, {k: v}; d.get(k, x) -/
namespace Pd
open PySem PySem.Spec PyProof.Rows L2
section
variable {X : Cx} {ke ve de : Expr} {tk tv td : TE} {wk wv wd wx : WE} {pos apos cpos : Pos}
def wDisp1 (wk wv : WE) : WN := fun ρ Φ => wk ρ fun r => wv ρ fun u => match r, u with
  | .d kd, .d x => (match keyD kd with
    | some k => Φ (.k [(k, x)])
    | none => False)
  | _, _ => False
theorem mn_disp1 (hk : ME X ke tk wk) (hv : ME X ve tv wv) : MN X (.Dict [some ke] [ve] pos) (tDisp [(tk, tv)]) (wDisp1 wk wv) :=
  ⟨pe_disp (pps_cons hk.pe hv.pe pps_nil) rfl rfl (by simp) (by show 1 ≤ 15; decide), fun EX G H σ ρ Φ R f Q q p hp => by
    have S0 : Step EX G H G (upd H p (.dK [])) := R.toGd.newOut hp
    refine hk.so EX G _ σ ρ _ (R.step S0) f _ fun kv G1 H1 r S1 rk f1 => hv.so EX G1 H1 σ ρ _ ((R.step S0).step S1) f1 _ fun v G2 H2 u S2 rv f2 => ?_
    have nb : ¬ EX p .box := R.toGd.notBox hp
    have at1 : H1 p = some (.dK []) := (S1.st p _ upd_same).resolve_left nb
    have at2 : H2 p = some (.dK []) := (S2.st p _ at1).resolve_left nb
    have g1 : G1 p = none := by
      cases e : G1 p with
      | none => rfl
      | some o =>
        rcases S1.gn p o e with z | z
        · rw [R.toGd.free hp] at z
          cases z
        · rw [upd_same] at z
          cases z
    have g2 : G2 p = none := by
      cases e : G2 p with
      | none => rfl
      | some o =>
        rcases S2.gn p o e with z | z
        · rw [g1] at z
          cases z
        · rw [at1] at z
          cases z
    have S : Step EX G H G2 H2 := (S0.trans S1).trans S2
    split at f2
    · rename_i kd x
      split at f2
      · rename_i k hkd
        have ek : kv = kV k := keyD_v rk hkd
        have rv' : Dd X.K G2 v x := rv
        refine ⟨at2, [(k, v)], by rw [ek]; rfl, by simp, ?_⟩
        exact q p G2 _ (.k [(k, x)]) (S.cell hp nb g2) (fun b hb => by rw [owns_k hb]; exact ⟨hp, g2, nb⟩) ⟨[(k, v)], upd_same, .cons ⟨rfl, rv'⟩ .nil⟩ f2
      · exact f2.elim
    · exact f2.elim⟩
def wDGet2 (wd wk wx : WE) : WE := fun ρ Φ => wd ρ fun r => match r with
  | .dk kvs => wk ρ fun u => wx ρ fun z => (match u, z with
    | .d kd, .d x => (match keyD kd with
      | some k => Φ (.d ((valD kvs k).getD x))
      | none => False)
    | _, _ => False)
  | _ => False
theorem so_dget2 {K : PySem.W.Frag} {tx : TE} (hd : SoE K td wd) (hk : SoE K tk wk) (hx : SoE K tx wx) : SoE K (tDGet2 td tk tx) (wDGet2 wd wk wx) := fun EX G H σ ρ Φ R f Q q =>
  hd EX G H σ ρ _ R f _ fun v G1 H1 r S1 rv f1 => by
    split at f1
    · rename_i kvs
      obtain ⟨a, vs, rfl, g, kv⟩ := id rv
      refine ⟨a, rfl, .inl ⟨vs, .inl ((R.step S1).sub _ _ g)⟩, hk EX G1 H1 σ ρ _ (R.step S1) f1 _ fun u G2 H2 y S2 ru f2 => hx EX G2 H2 σ ρ _ ((R.step S1).step S2) f2 _ fun z G3 H3 x S3 rx f3 => ?_⟩
      split at f3
      · rename_i kd x
        split at f3
        · rename_i k hkd
          have S23 := S2.trans S3
          have ek : u = kV k := keyD_v ru hkd
          have g3 : G3 a = some (.dK vs) := S23.gg _ _ g
          have R3 := ((R.step S1).step S2).step S3
          have kv3 : KvD K G3 vs kvs := kvMono S23.gg kv
          have rx' : Dd K G3 z x := rx
          subst ek
          refine ⟨valV vs k, DGet.k (R3.sub _ _ g3), ?_⟩
          have S := (S1.trans S2).trans S3
          rcases kv_val k kv3 with ⟨e1, e2⟩ | ⟨v', d', e1, e2, e3⟩
          · rw [e1]
            rw [e2] at f3
            exact q z G3 H3 (.d x) S rx' f3
          · rw [e1]
            rw [e2] at f3
            exact q v' G3 H3 (.d d') S e3 f3
        · exact f3.elim
      · exact f3.elim
    · exact f1.elim
theorem me_dget2 {k : Nat} {tx : TE} (hr : Room k X.A) (hd : ME X de td wd) (hk : ME X ke tk wk) (hx : ME X ve tx wx) (hbase : attributeBase de "get" X.env (eval de X.env) = eval de X.env := by rfl)
    (hfew : ((backTo cpos (starEach [ke, ve] X.env)).all (fun x => !x.1) && (backToKw cpos (keywordEach [] X.env)).all (fun x => x.1.isSome) && decide (([ke, ve] : List Expr).length + ([] : List Keyword).length + (if ([] : List Keyword).isEmpty then 0 else 1) < 30)) = true := by rfl)
    (hline : (apos.endLine == cpos.line) = true := by rfl) (htr : backTo cpos (starEach [ke, ve] X.env) = [(false, eval ke X.env), (false, eval ve X.env)] := by rfl) :
    ME X (.Call (.Attribute de "get" apos) [ke, ve] [] cpos) (tDGet2 td tk tx) (wDGet2 wd wk wx) :=
  ⟨pe_dget2 (hu_of hr) hd.pe hk.pe hx.pe ⟨hbase, hfew, hline, htr⟩, so_dget2 hd.so hk.so hx.so⟩
end
end Pd
end

section
set_option Elab.async false
set_option linter.all false
set_option maxRecDepth 100000
set_option autoImplicit false
set_option maxHeartbeats 4000000
/-! Pd, a list taken apart -/
namespace Pd
open PySem PySem.Spec PyProof.Rows L2
section
variable {X : Cx} {pos : Pos}
def wgLst (n : Nat) (u : WGs) : WG := fun r ρ Φ => match r with
  | .d (.list ds) => ds.length = n ∧ u ds ρ Φ
  | _ => False
theorem mg_lst {es : List Expr} {k n : Nat} {gs : TGs} {u : WGs} {sl : List Nat} (h : MGs X es gs u sl) (hc : X.calm = true := by rfl) (hn : (assignEach es X.env).length = n := by rfl) (hst : (assignEach es X.env).findIdx? (·.1) = none := by rfl) :
    MG X (.Tuple es k pos) (gLst X.K n gs) (wgLst n u) sl := ⟨pg_lst hc h.pg hn hst, fun EX G H σ ρ v r Φ R rv f Q q => by
  unfold wgLst at f
  split at f
  · obtain ⟨a, xs, e, g, dd⟩ := rwLst rv
    exact ⟨a, xs, e, .inl (.inl (R.sub _ _ g)), by rw [dpLen dd]; exact f.1, h.so EX G H σ ρ xs _ Φ R dd f.2 Q q⟩
  · exact f.elim⟩
end
end Pd
end

section
set_option Elab.async false
set_option linter.all false
set_option maxRecDepth 100000
set_option autoImplicit false
set_option maxHeartbeats 4000000
namespace Pd
open PySem PySem.Spec PyProof.Rows L2
def n_law_box : List Str := ["script", "k", "cell", "seed"]
def w_law_box : WS :=
    (wSeq2 (wSet 2 (wOp oAdd (wOp oMul (wC (.d (.int 5387))) (wVar 1)) (wC (.d (.int 29)))))
    (wSeq2 (wIfS (wB (wOp (oLt (fun i j => decide (i < j)) ltL) (wVar 1) (wCB oLen (wCons (wVar 0) wNil)))) (wSet 2 (wOp oIx (wVar 0) (wVar 1))) (wIfS (wB (wOp (oLt (fun i j => decide (j < i)) gtL) (wCB oLen (wCons (wVar 0) wNil)) (wC (.d (.int 0))))) (wSet 2 (wOp oAdd (wVar 2) (wOp oMul (wOp (oI (fun _ j => 0 < j) fun i j => i % j) (wOp oIx (wVar 0) (wOp (oI (fun _ j => 0 < j) fun i j => i % j) (wVar 1) (wCB oLen (wCons (wVar 0) wNil)))) (wC (.d (.int 2147483629)))) (wC (.d (.int 69623)))))) wNext))
    (wSeq2 (wSet 3 (wOp oAdd (wOp (oI (fun _ j => 0 < j) fun i j => i % j) (wOp oAdd (wOp oMul (wOp (oI (fun _ j => 0 < j) fun i j => i % j) (wVar 2) (wC (.d (.int 2147483629)))) (wC (.d (.int 48271)))) (wOp oMul (wC (.d (.int 40692))) (wVar 1))) (wC (.d (.int 2147483629)))) (wC (.d (.int 1)))))
    (wRetB (wLst (wCons (wOp oIx (wFz (wLst (wCons (wC (.d (.int 0))) (wCons (wVar 2) wNil)))) (wCB oInt (wCons (wOp oGe (wVar 2) (wOp (oI CPow fun i j => i ^ j.toNat) (wC (.d (.int 10))) (wC (.d (.int 18))))) wNil))) (wCons (wVar 3) (wCons (wC (.d (.int 0))) wNil))))))))
def n_law_take : List Str := ["box", "many", "digit", "one"]
def w_law_take : WS :=
    (wSeq2 (wIfS (wB (wOp (oLt (fun i j => decide (j < i)) gtL) (wOp oIx (wVar 0) (wC (.d (.int 0)))) (wC (.d (.int 0))))) (wSeq2 (wSet 2 (wOp (oI (fun _ j => 0 < j) fun i j => i % j) (wOp oIx (wVar 0) (wC (.d (.int 0)))) (wVar 1)))
    (wSeq2 (wSetBx 0 (wOp (oI CDiv fun i j => i / j) (wOp oIx (wVar 0) (wC (.d (.int 0)))) (wVar 1)) (wC (.d (.int 0))))
    (wRet (wVar 2)))) wNext)
    (wSeq2 (wSetBx 0 (wOp oAdd (wOp oIx (wVar 0) (wC (.d (.int 2)))) (wC (.d (.int 1)))) (wC (.d (.int 2))))
    (wSeq2 (wSet 3 (wOp (oI (fun _ j => 0 < j) fun i j => i % j) (wOp oMul (wOp oAdd (wOp oIx (wVar 0) (wC (.d (.int 1)))) (wOp oMul (wC (.d (.int 104729))) (wOp oIx (wVar 0) (wC (.d (.int 2)))))) (wC (.d (.int 69623)))) (wC (.d (.int 2147483647)))))
    (wSeq2 (wSetBx 0 (wOp oAdd (wOp (oI (fun _ j => 0 < j) fun i j => i % j) (wOp oAdd (wOp oMul (wVar 3) (wC (.d (.int 48271)))) (wC (.d (.int 30103)))) (wC (.d (.int 2147483629)))) (wC (.d (.int 1)))) (wC (.d (.int 1))))
    (wRet (wOp (oI (fun _ j => 0 < j) fun i j => i % j) (wOp (oI CDiv fun i j => i / j) (wOp oAdd (wOp oMul (wVar 3) (wC (.d (.int 2147483647)))) (wOp oIx (wVar 0) (wC (.d (.int 1))))) (wC (.d (.int 8191)))) (wVar 1)))))))
def n_law_names : List Str := ["box", "many", "letters", "words", "stem", "at", "first", "step", "names", "k", "sign", "spot", "word"]
def w_law_names (F_law_take : FW) : WS :=
    (wSeq2 (wPar [2, 3] (wConsO (wC (.d (.str "abcdefghijklmnopqrstuvwxyz"))) (wConsO (wFz (wLst (wCons (wC (.d (.str "rooms"))) (wCons (wC (.d (.str "door"))) (wCons (wC (.d (.str "faces"))) (wCons (wC (.d (.str "walker"))) (wCons (wC (.d (.str "pass"))) (wCons (wC (.d (.str "hall"))) (wCons (wC (.d (.str "back"))) (wCons (wC (.d (.str "none"))) wNil)))))))))) wNilO)))
    (wSeq2 (wSet 4 (wJoin "" (wFz (wLc (wRange1 (wCons (wCallD F_law_take (wCons (wVar 0) (wCons (wC (.d (.int 5))) wNil))) wNil)) (wgName 9) wYes (wOp oIx (wVar 2) (wCallD F_law_take (wCons (wVar 0) (wCons (wC (.d (.int 26))) wNil)))) [9]))))
    (wSeq2 (wSet 4 (wOp oIx (wFz (wLst (wCons (wVar 4) (wCons (wC (.d (.str "floor"))) wNil)))) (wCB oInt (wCons (wOp (oEq false) (wCallD F_law_take (wCons (wVar 0) (wCons (wC (.d (.int 4))) wNil))) (wC (.d (.int 0)))) wNil))))
    (wSeq2 (wPar [5, 6, 7] (wConsO (wCallD F_law_take (wCons (wVar 0) (wCons (wOp oAdd (wCB oLen (wCons (wVar 4) wNil)) (wC (.d (.int 1)))) wNil))) (wConsO (wCallD F_law_take (wCons (wVar 0) (wCons (wC (.d (.int 26))) wNil))) (wConsO (wOp oIx (wFz (wLst (wCons (wC (.d (.int 7))) (wCons (wC (.d (.int 1))) (wCons (wC (.d (.int 11))) (wCons (wC (.d (.int 25))) wNil)))))) (wCallD F_law_take (wCons (wVar 0) (wCons (wC (.d (.int 4))) wNil)))) wNilO))))
    (wSeq2 (wSetO 8 (wLst wNil))
    (wSeq2 (wFor (wRange1 (wCons (wVar 1) wNil)) (wgName 9) (wSeq2 (wSet 10 (wOp oIx (wVar 2) (wOp (oI (fun _ j => 0 < j) fun i j => i % j) (wOp oAdd (wVar 6) (wOp oMul (wVar 7) (wVar 9))) (wC (.d (.int 26))))))
    (wApp 8 (wOp oAdd (wOp oAdd (wSl (wVar 4) wNoPart (wPart (wVar 5))) (wVar 10)) (wSl (wVar 4) (wPart (wVar 5)) wNoPart)))))
    (wSeq2 (wPar [11, 12] (wConsO (wCallD F_law_take (wCons (wVar 0) (wCons (wVar 1) wNil))) (wConsO (wOp oIx (wVar 3) (wCallD F_law_take (wCons (wVar 0) (wCons (wC (.d (.int 8))) wNil)))) wNilO)))
    (wSeq2 (wIfS (wAnd (wB (wOp (oEq false) (wCallD F_law_take (wCons (wVar 0) (wCons (wC (.d (.int 4))) wNil))) (wC (.d (.int 0))))) (wLendT 8 (wB (wOp (oIn true) (wVar 12) (wVar 8))))) (wSetIx 8 (wVar 12) (wVar 11)) wNext)
    (wFrz 8 (wRet (wVar 8)))))))))))
def n_law_alike : List Str := ["found", "due", "one", "other"]
def w_law_alike (F_law_alike : FW) : WS :=
    (wSeq2 (wIfS (wB (wIsi (wVar 1) [.tuple, .list])) (wSeq2 (wIfS (wOr (wB (wOp (oEq true) (wIsi (wVar 0) [.tuple]) (wIsi (wVar 1) [.tuple]))) (wB (wOp (oEq true) (wIsi (wVar 0) [.list]) (wIsi (wVar 1) [.list])))) (wRet (wC (.d (.bool false)))) wNext)
    (wRet (wAndV (wOp (oEq false) (wCB oLen (wCons (wVar 0) wNil)) (wCB oLen (wCons (wVar 1) wNil))) (wCB (oAnyAll fun bs => bs.all _root_.id) (wCons (wFz (wLc (wZip (wCons (wVar 0) (wCons (wVar 1) wNil))) (wgTup 2 (wgCons (wgName 2) (wgCons (wgName 3) wgNil))) wYes (wCallD F_law_alike (wCons (wVar 2) (wCons (wVar 3) wNil))) [2, 3])) wNil))))) wNext)
    (wSeq2 (wIfS (wOr (wB (wOp (oEq true) (wIsi (wVar 0) [.bool]) (wIsi (wVar 1) [.bool]))) (wB (wOp (oEq true) (wIsi (wVar 0) [.str]) (wIsi (wVar 1) [.str])))) (wRet (wC (.d (.bool false)))) wNext)
    (wRet (wAndV (wNotV (wIsi (wVar 0) [.tuple, .list, .dict])) (wOp (oEq false) (wVar 0) (wVar 1))))))
end Pd
end

section
set_option Elab.async false
set_option linter.all false
set_option maxRecDepth 100000
set_option autoImplicit false
set_option maxHeartbeats 4000000
namespace Pd
open PySem PySem.Spec PyProof.Rows L2
def F_law_take : FW := fun ws Φ => ∃ a m, ws = [.p a, .d (.int m)] ∧ 0 < m ∧ m < 1000000 ∧ ∀ r, 0 ≤ r → r < m → Φ (.d (.int r))
theorem l_law_take (ws : List W) (Φ : W → Prop) (h : F_law_take ws Φ) : ws.length = 2 := by
  obtain ⟨a, m, rfl, _⟩ := h
  rfl
theorem m_law_take (ws : List W) (Φ : W → Prop) (h : F_law_take ws Φ) : w_law_take (startR n_law_take ws) ⟨fun _ => Φ (.d .none), Φ, fun _ => False, fun _ => False, fun _ _ => False⟩ := by
  obtain ⟨a, m, rfl, hm, hm2, q⟩ := h
  simp only [w_law_take, n_law_take, wSeq2, wNext, wRet, wDrop, wIfS, wSet, wSetO, wSetN, wSetC, wSetIx, wSetI, wSetBx, wSetB, wAug, wApp, wAsg, wPar, wNilO, wConsO, wConsN, wL2N, putR, noUn, wVar, wC, wNil, wCons, wTup, wLst, wFz, wOp, wB, wAnd, wOr, wNot, wAndV, wOrV, wNotV, wIf, wNeg, wCB, wCL, wCallD, wRetB, wIsi, wSl, wNoPart, wPart, wRev, wFrz, wLend, wLendT, wLendL, muW, wFor, wSeq, wRange1, wRange2, wLc, wipeR, wgName, wgTup, wgCons, wgNil, startR, wJoin, wZip, wEnum, wEnumA, wDisp1, wDGet2, wBrk, wCnt, wIxOx, wIxO, wPopSet, wPopAt, wPopAtSet, popAtW, wExt, wSet2, xE, xT, xA, xCons, xTup, xLst, xFz, xOp, xB, xNot, xAnd, xOr, xSl, xCB, xCallD, xCallX, xCallL, xRet, xDrop, xIfS, xSet, xAsg, wRaise, wTry, wHandle, outPs, wXf, wXis, wChain, wCat, wLm, gCnt, ev_addI, ev_addS, ev_addT, ev_addL, ev_mulI, ev_I, ev_I0, ev_ltI, ev_ltS, ev_ge, ev_eqI, ev_eqS, ev_eqB, ev_p0, ev_p1, ev_p2, ev_lenL, ev_lenT, ev_lenS, ev_lenQ, ev_lenK, ev_tupL, ev_tupT, ev_lisL, ev_lisT, ev_intI, ev_intB, ev_max2, ev_min2, ev_repr, ev_reprB, ev_reprT, ev_eqRp, ev_slL, ev_slT, ev_slS, ev_seqL, ev_seqT, ev_seqS, ev_inL, ev_inT, ev_isB, ev_dO, ev_dat0, ev_dat1, ev_dat2, ev_dat3, ev_dat4, ev_dat5, ev_dat8, ev_i0, ev_i1, ev_i2, ev_l0, ev_l1, ev_l2, dats, List.zip_cons_cons, List.zip_nil_right, List.zip_nil_left, List.reverse_singleton, List.reverse_cons, List.reverse_nil, wYes, List.getElem?_cons_zero, List.getElem?_cons_succ, List.set_cons_zero, List.set_cons_succ, List.map_cons, List.map_nil, List.cons_append, List.nil_append, List.append_nil, List.replicate, List.length_cons, List.length_nil, Nat.reduceAdd, Nat.reduceSub, Option.some.injEq, List.append_eq, Nat.zero_add, exists_eq', exists_eq_left', Sl.mu.injEq, Mu.l.injEq, Sl.sh.injEq, W.p.injEq, true_and, and_true, or_true, true_or, ite_true, ite_false, if_true, if_false, Bool.false_eq_true, decide_eq_true_eq]
  intro n
  split
  · intro n
    refine ⟨hm, fun n1 => ⟨⟨hm, by omega⟩, q _ (Int.emod_nonneg _ (by omega)) (Int.emod_lt_of_pos _ hm)⟩⟩
  · intro n n1 n2
    refine ⟨cmulL (by decide) (by decide), cmulR (by decide) (by decide), by decide, cmulR (by decide) (by decide), by decide, cmulR (by decide) (by decide), fun n3 => ⟨⟨by decide, by decide⟩, hm, q _ (Int.emod_nonneg _ (by omega)) (Int.emod_lt_of_pos _ hm)⟩⟩
def F_law_box : FW := fun ws Φ => ∃ s ns k, ws = [.sq s ns, .d (.int k)] ∧ 0 ≤ k ∧ k < 1000000 ∧ ∀ a, Φ (.p a)
theorem l_law_box (ws : List W) (Φ : W → Prop) (h : F_law_box ws Φ) : ws.length = 2 := by
  obtain ⟨a, ns, m, rfl, _⟩ := h
  rfl
theorem m_law_box (ws : List W) (Φ : W → Prop) (h : F_law_box ws Φ) : w_law_box (startR n_law_box ws) ⟨fun _ => Φ (.d .none), Φ, fun _ => False, fun _ => False, fun _ _ => False⟩ := by
  obtain ⟨s, ns, k, rfl, h0, h1, q⟩ := h
  simp only [w_law_box, n_law_box, wSeq2, wNext, wRet, wDrop, wIfS, wSet, wSetO, wSetN, wSetC, wSetIx, wSetI, wSetBx, wSetB, wAug, wApp, wAsg, wPar, wNilO, wConsO, wConsN, wL2N, putR, noUn, wVar, wC, wNil, wCons, wTup, wLst, wFz, wOp, wB, wAnd, wOr, wNot, wAndV, wOrV, wNotV, wIf, wNeg, wCB, wCL, wCallD, wRetB, wIsi, wSl, wNoPart, wPart, wRev, wFrz, wLend, wLendT, wLendL, muW, wFor, wSeq, wRange1, wRange2, wLc, wipeR, wgName, wgTup, wgCons, wgNil, startR, wJoin, wZip, wEnum, wEnumA, wDisp1, wDGet2, wBrk, wCnt, wIxOx, wIxO, wPopSet, wPopAt, wPopAtSet, popAtW, wExt, wSet2, xE, xT, xA, xCons, xTup, xLst, xFz, xOp, xB, xNot, xAnd, xOr, xSl, xCB, xCallD, xCallX, xCallL, xRet, xDrop, xIfS, xSet, xAsg, wRaise, wTry, wHandle, outPs, wXf, wXis, wChain, wCat, wLm, gCnt, ev_addI, ev_addS, ev_addT, ev_addL, ev_mulI, ev_I, ev_I0, ev_ltI, ev_ltS, ev_ge, ev_eqI, ev_eqS, ev_eqB, ev_p0, ev_p1, ev_p2, ev_lenL, ev_lenT, ev_lenS, ev_lenQ, ev_lenK, ev_tupL, ev_tupT, ev_lisL, ev_lisT, ev_intI, ev_intB, ev_max2, ev_min2, ev_repr, ev_reprB, ev_reprT, ev_eqRp, ev_slL, ev_slT, ev_slS, ev_seqL, ev_seqT, ev_seqS, ev_inL, ev_inT, ev_isB, ev_dO, ev_dat0, ev_dat1, ev_dat2, ev_dat3, ev_dat4, ev_dat5, ev_dat8, ev_i0, ev_i1, ev_i2, ev_l0, ev_l1, ev_l2, dats, List.zip_cons_cons, List.zip_nil_right, List.zip_nil_left, List.reverse_singleton, List.reverse_cons, List.reverse_nil, wYes, List.getElem?_cons_zero, List.getElem?_cons_succ, List.set_cons_zero, List.set_cons_succ, List.map_cons, List.map_nil, List.cons_append, List.nil_append, List.append_nil, List.replicate, List.length_cons, List.length_nil, Nat.reduceAdd, Nat.reduceSub, Option.some.injEq, List.append_eq, Nat.zero_add, exists_eq', exists_eq_left', Sl.mu.injEq, Mu.l.injEq, Sl.sh.injEq, W.p.injEq, true_and, and_true, or_true, true_or, ite_true, ite_false, if_true, if_false, Bool.false_eq_true, decide_eq_true_eq]
  refine ⟨cmulL (by decide) (by decide), ?_⟩
  have p18 : CPow 10 18 := ⟨by decide, by decide, by decide⟩
  split
  · rename_i h
    refine r_ixs h0 h fun n => ?_
    simp only [wSeq2, wNext, wRet, wDrop, wIfS, wSet, wSetO, wSetN, wSetC, wSetIx, wSetI, wSetBx, wSetB, wAug, wApp, wAsg, wPar, wNilO, wConsO, wConsN, wL2N, putR, noUn, wVar, wC, wNil, wCons, wTup, wLst, wFz, wOp, wB, wAnd, wOr, wNot, wAndV, wOrV, wNotV, wIf, wNeg, wCB, wCL, wCallD, wRetB, wIsi, wSl, wNoPart, wPart, wRev, wFrz, wLend, wLendT, wLendL, muW, wFor, wSeq, wRange1, wRange2, wLc, wipeR, wgName, wgTup, wgCons, wgNil, startR, wJoin, wZip, wEnum, wEnumA, wDisp1, wDGet2, wBrk, wCnt, wIxOx, wIxO, wPopSet, wPopAt, wPopAtSet, popAtW, wExt, wSet2, xE, xT, xA, xCons, xTup, xLst, xFz, xOp, xB, xNot, xAnd, xOr, xSl, xCB, xCallD, xCallX, xCallL, xRet, xDrop, xIfS, xSet, xAsg, wRaise, wTry, wHandle, outPs, wXf, wXis, wChain, wCat, wLm, gCnt, ev_addI, ev_addS, ev_addT, ev_addL, ev_mulI, ev_I, ev_I0, ev_ltI, ev_ltS, ev_ge, ev_eqI, ev_eqS, ev_eqB, ev_p0, ev_p1, ev_p2, ev_lenL, ev_lenT, ev_lenS, ev_lenQ, ev_lenK, ev_tupL, ev_tupT, ev_lisL, ev_lisT, ev_intI, ev_intB, ev_max2, ev_min2, ev_repr, ev_reprB, ev_reprT, ev_eqRp, ev_slL, ev_slT, ev_slS, ev_seqL, ev_seqT, ev_seqS, ev_inL, ev_inT, ev_isB, ev_dO, ev_dat0, ev_dat1, ev_dat2, ev_dat3, ev_dat4, ev_dat5, ev_dat8, ev_i0, ev_i1, ev_i2, ev_l0, ev_l1, ev_l2, dats, List.zip_cons_cons, List.zip_nil_right, List.zip_nil_left, List.reverse_singleton, List.reverse_cons, List.reverse_nil, wYes, List.getElem?_cons_zero, List.getElem?_cons_succ, List.set_cons_zero, List.set_cons_succ, List.map_cons, List.map_nil, List.cons_append, List.nil_append, List.append_nil, List.replicate, List.length_cons, List.length_nil, Nat.reduceAdd, Nat.reduceSub, Option.some.injEq, List.append_eq, Nat.zero_add, exists_eq', exists_eq_left', Sl.mu.injEq, Mu.l.injEq, Sl.sh.injEq, W.p.injEq, true_and, and_true, or_true, true_or, ite_true, ite_false, if_true, if_false, Bool.false_eq_true, decide_eq_true_eq]
    refine ⟨by decide, cmulR (by decide) (by decide), cmulL (by decide) (by decide), by decide, p18, r_twoP fun d hd => ?_⟩
    rcases hd with rfl | rfl
    · simp only [wSeq2, wNext, wRet, wDrop, wIfS, wSet, wSetO, wSetN, wSetC, wSetIx, wSetI, wSetBx, wSetB, wAug, wApp, wAsg, wPar, wNilO, wConsO, wConsN, wL2N, putR, noUn, wVar, wC, wNil, wCons, wTup, wLst, wFz, wOp, wB, wAnd, wOr, wNot, wAndV, wOrV, wNotV, wIf, wNeg, wCB, wCL, wCallD, wRetB, wIsi, wSl, wNoPart, wPart, wRev, wFrz, wLend, wLendT, wLendL, muW, wFor, wSeq, wRange1, wRange2, wLc, wipeR, wgName, wgTup, wgCons, wgNil, startR, wJoin, wZip, wEnum, wEnumA, wDisp1, wDGet2, wBrk, wCnt, wIxOx, wIxO, wPopSet, wPopAt, wPopAtSet, popAtW, wExt, wSet2, xE, xT, xA, xCons, xTup, xLst, xFz, xOp, xB, xNot, xAnd, xOr, xSl, xCB, xCallD, xCallX, xCallL, xRet, xDrop, xIfS, xSet, xAsg, wRaise, wTry, wHandle, outPs, wXf, wXis, wChain, wCat, wLm, gCnt, ev_addI, ev_addS, ev_addT, ev_addL, ev_mulI, ev_I, ev_I0, ev_ltI, ev_ltS, ev_ge, ev_eqI, ev_eqS, ev_eqB, ev_p0, ev_p1, ev_p2, ev_lenL, ev_lenT, ev_lenS, ev_lenQ, ev_lenK, ev_tupL, ev_tupT, ev_lisL, ev_lisT, ev_intI, ev_intB, ev_max2, ev_min2, ev_repr, ev_reprB, ev_reprT, ev_eqRp, ev_slL, ev_slT, ev_slS, ev_seqL, ev_seqT, ev_seqS, ev_inL, ev_inT, ev_isB, ev_dO, ev_dat0, ev_dat1, ev_dat2, ev_dat3, ev_dat4, ev_dat5, ev_dat8, ev_i0, ev_i1, ev_i2, ev_l0, ev_l1, ev_l2, dats, List.zip_cons_cons, List.zip_nil_right, List.zip_nil_left, List.reverse_singleton, List.reverse_cons, List.reverse_nil, wYes, List.getElem?_cons_zero, List.getElem?_cons_succ, List.set_cons_zero, List.set_cons_succ, List.map_cons, List.map_nil, List.cons_append, List.nil_append, List.append_nil, List.replicate, List.length_cons, List.length_nil, Nat.reduceAdd, Nat.reduceSub, Option.some.injEq, List.append_eq, Nat.zero_add, exists_eq', exists_eq_left', Sl.mu.injEq, Mu.l.injEq, Sl.sh.injEq, W.p.injEq, true_and, and_true, or_true, true_or, ite_true, ite_false, if_true, if_false, Bool.false_eq_true, decide_eq_true_eq]
      exact q
    · simp only [wSeq2, wNext, wRet, wDrop, wIfS, wSet, wSetO, wSetN, wSetC, wSetIx, wSetI, wSetBx, wSetB, wAug, wApp, wAsg, wPar, wNilO, wConsO, wConsN, wL2N, putR, noUn, wVar, wC, wNil, wCons, wTup, wLst, wFz, wOp, wB, wAnd, wOr, wNot, wAndV, wOrV, wNotV, wIf, wNeg, wCB, wCL, wCallD, wRetB, wIsi, wSl, wNoPart, wPart, wRev, wFrz, wLend, wLendT, wLendL, muW, wFor, wSeq, wRange1, wRange2, wLc, wipeR, wgName, wgTup, wgCons, wgNil, startR, wJoin, wZip, wEnum, wEnumA, wDisp1, wDGet2, wBrk, wCnt, wIxOx, wIxO, wPopSet, wPopAt, wPopAtSet, popAtW, wExt, wSet2, xE, xT, xA, xCons, xTup, xLst, xFz, xOp, xB, xNot, xAnd, xOr, xSl, xCB, xCallD, xCallX, xCallL, xRet, xDrop, xIfS, xSet, xAsg, wRaise, wTry, wHandle, outPs, wXf, wXis, wChain, wCat, wLm, gCnt, ev_addI, ev_addS, ev_addT, ev_addL, ev_mulI, ev_I, ev_I0, ev_ltI, ev_ltS, ev_ge, ev_eqI, ev_eqS, ev_eqB, ev_p0, ev_p1, ev_p2, ev_lenL, ev_lenT, ev_lenS, ev_lenQ, ev_lenK, ev_tupL, ev_tupT, ev_lisL, ev_lisT, ev_intI, ev_intB, ev_max2, ev_min2, ev_repr, ev_reprB, ev_reprT, ev_eqRp, ev_slL, ev_slT, ev_slS, ev_seqL, ev_seqT, ev_seqS, ev_inL, ev_inT, ev_isB, ev_dO, ev_dat0, ev_dat1, ev_dat2, ev_dat3, ev_dat4, ev_dat5, ev_dat8, ev_i0, ev_i1, ev_i2, ev_l0, ev_l1, ev_l2, dats, List.zip_cons_cons, List.zip_nil_right, List.zip_nil_left, List.reverse_singleton, List.reverse_cons, List.reverse_nil, wYes, List.getElem?_cons_zero, List.getElem?_cons_succ, List.set_cons_zero, List.set_cons_succ, List.map_cons, List.map_nil, List.cons_append, List.nil_append, List.append_nil, List.replicate, List.length_cons, List.length_nil, Nat.reduceAdd, Nat.reduceSub, Option.some.injEq, List.append_eq, Nat.zero_add, exists_eq', exists_eq_left', Sl.mu.injEq, Mu.l.injEq, Sl.sh.injEq, W.p.injEq, true_and, and_true, or_true, true_or, ite_true, ite_false, if_true, if_false, Bool.false_eq_true, decide_eq_true_eq]
      exact q
  · split
    · rename_i h
      refine ⟨h, r_ixs (Int.emod_nonneg _ (by omega)) (Int.emod_lt_of_pos _ h) fun n => ?_⟩
      simp only [wSeq2, wNext, wRet, wDrop, wIfS, wSet, wSetO, wSetN, wSetC, wSetIx, wSetI, wSetBx, wSetB, wAug, wApp, wAsg, wPar, wNilO, wConsO, wConsN, wL2N, putR, noUn, wVar, wC, wNil, wCons, wTup, wLst, wFz, wOp, wB, wAnd, wOr, wNot, wAndV, wOrV, wNotV, wIf, wNeg, wCB, wCL, wCallD, wRetB, wIsi, wSl, wNoPart, wPart, wRev, wFrz, wLend, wLendT, wLendL, muW, wFor, wSeq, wRange1, wRange2, wLc, wipeR, wgName, wgTup, wgCons, wgNil, startR, wJoin, wZip, wEnum, wEnumA, wDisp1, wDGet2, wBrk, wCnt, wIxOx, wIxO, wPopSet, wPopAt, wPopAtSet, popAtW, wExt, wSet2, xE, xT, xA, xCons, xTup, xLst, xFz, xOp, xB, xNot, xAnd, xOr, xSl, xCB, xCallD, xCallX, xCallL, xRet, xDrop, xIfS, xSet, xAsg, wRaise, wTry, wHandle, outPs, wXf, wXis, wChain, wCat, wLm, gCnt, ev_addI, ev_addS, ev_addT, ev_addL, ev_mulI, ev_I, ev_I0, ev_ltI, ev_ltS, ev_ge, ev_eqI, ev_eqS, ev_eqB, ev_p0, ev_p1, ev_p2, ev_lenL, ev_lenT, ev_lenS, ev_lenQ, ev_lenK, ev_tupL, ev_tupT, ev_lisL, ev_lisT, ev_intI, ev_intB, ev_max2, ev_min2, ev_repr, ev_reprB, ev_reprT, ev_eqRp, ev_slL, ev_slT, ev_slS, ev_seqL, ev_seqT, ev_seqS, ev_inL, ev_inT, ev_isB, ev_dO, ev_dat0, ev_dat1, ev_dat2, ev_dat3, ev_dat4, ev_dat5, ev_dat8, ev_i0, ev_i1, ev_i2, ev_l0, ev_l1, ev_l2, dats, List.zip_cons_cons, List.zip_nil_right, List.zip_nil_left, List.reverse_singleton, List.reverse_cons, List.reverse_nil, wYes, List.getElem?_cons_zero, List.getElem?_cons_succ, List.set_cons_zero, List.set_cons_succ, List.map_cons, List.map_nil, List.cons_append, List.nil_append, List.append_nil, List.replicate, List.length_cons, List.length_nil, Nat.reduceAdd, Nat.reduceSub, Option.some.injEq, List.append_eq, Nat.zero_add, exists_eq', exists_eq_left', Sl.mu.injEq, Mu.l.injEq, Sl.sh.injEq, W.p.injEq, true_and, and_true, or_true, true_or, ite_true, ite_false, if_true, if_false, Bool.false_eq_true, decide_eq_true_eq]
      refine ⟨by decide, cmulR (by decide) (by decide), by decide, cmulR (by decide) (by decide), cmulL (by decide) (by decide), by decide, p18, r_twoP fun d hd => ?_⟩
      rcases hd with rfl | rfl
      · simp only [wSeq2, wNext, wRet, wDrop, wIfS, wSet, wSetO, wSetN, wSetC, wSetIx, wSetI, wSetBx, wSetB, wAug, wApp, wAsg, wPar, wNilO, wConsO, wConsN, wL2N, putR, noUn, wVar, wC, wNil, wCons, wTup, wLst, wFz, wOp, wB, wAnd, wOr, wNot, wAndV, wOrV, wNotV, wIf, wNeg, wCB, wCL, wCallD, wRetB, wIsi, wSl, wNoPart, wPart, wRev, wFrz, wLend, wLendT, wLendL, muW, wFor, wSeq, wRange1, wRange2, wLc, wipeR, wgName, wgTup, wgCons, wgNil, startR, wJoin, wZip, wEnum, wEnumA, wDisp1, wDGet2, wBrk, wCnt, wIxOx, wIxO, wPopSet, wPopAt, wPopAtSet, popAtW, wExt, wSet2, xE, xT, xA, xCons, xTup, xLst, xFz, xOp, xB, xNot, xAnd, xOr, xSl, xCB, xCallD, xCallX, xCallL, xRet, xDrop, xIfS, xSet, xAsg, wRaise, wTry, wHandle, outPs, wXf, wXis, wChain, wCat, wLm, gCnt, ev_addI, ev_addS, ev_addT, ev_addL, ev_mulI, ev_I, ev_I0, ev_ltI, ev_ltS, ev_ge, ev_eqI, ev_eqS, ev_eqB, ev_p0, ev_p1, ev_p2, ev_lenL, ev_lenT, ev_lenS, ev_lenQ, ev_lenK, ev_tupL, ev_tupT, ev_lisL, ev_lisT, ev_intI, ev_intB, ev_max2, ev_min2, ev_repr, ev_reprB, ev_reprT, ev_eqRp, ev_slL, ev_slT, ev_slS, ev_seqL, ev_seqT, ev_seqS, ev_inL, ev_inT, ev_isB, ev_dO, ev_dat0, ev_dat1, ev_dat2, ev_dat3, ev_dat4, ev_dat5, ev_dat8, ev_i0, ev_i1, ev_i2, ev_l0, ev_l1, ev_l2, dats, List.zip_cons_cons, List.zip_nil_right, List.zip_nil_left, List.reverse_singleton, List.reverse_cons, List.reverse_nil, wYes, List.getElem?_cons_zero, List.getElem?_cons_succ, List.set_cons_zero, List.set_cons_succ, List.map_cons, List.map_nil, List.cons_append, List.nil_append, List.append_nil, List.replicate, List.length_cons, List.length_nil, Nat.reduceAdd, Nat.reduceSub, Option.some.injEq, List.append_eq, Nat.zero_add, exists_eq', exists_eq_left', Sl.mu.injEq, Mu.l.injEq, Sl.sh.injEq, W.p.injEq, true_and, and_true, or_true, true_or, ite_true, ite_false, if_true, if_false, Bool.false_eq_true, decide_eq_true_eq]
        exact q
      · simp only [wSeq2, wNext, wRet, wDrop, wIfS, wSet, wSetO, wSetN, wSetC, wSetIx, wSetI, wSetBx, wSetB, wAug, wApp, wAsg, wPar, wNilO, wConsO, wConsN, wL2N, putR, noUn, wVar, wC, wNil, wCons, wTup, wLst, wFz, wOp, wB, wAnd, wOr, wNot, wAndV, wOrV, wNotV, wIf, wNeg, wCB, wCL, wCallD, wRetB, wIsi, wSl, wNoPart, wPart, wRev, wFrz, wLend, wLendT, wLendL, muW, wFor, wSeq, wRange1, wRange2, wLc, wipeR, wgName, wgTup, wgCons, wgNil, startR, wJoin, wZip, wEnum, wEnumA, wDisp1, wDGet2, wBrk, wCnt, wIxOx, wIxO, wPopSet, wPopAt, wPopAtSet, popAtW, wExt, wSet2, xE, xT, xA, xCons, xTup, xLst, xFz, xOp, xB, xNot, xAnd, xOr, xSl, xCB, xCallD, xCallX, xCallL, xRet, xDrop, xIfS, xSet, xAsg, wRaise, wTry, wHandle, outPs, wXf, wXis, wChain, wCat, wLm, gCnt, ev_addI, ev_addS, ev_addT, ev_addL, ev_mulI, ev_I, ev_I0, ev_ltI, ev_ltS, ev_ge, ev_eqI, ev_eqS, ev_eqB, ev_p0, ev_p1, ev_p2, ev_lenL, ev_lenT, ev_lenS, ev_lenQ, ev_lenK, ev_tupL, ev_tupT, ev_lisL, ev_lisT, ev_intI, ev_intB, ev_max2, ev_min2, ev_repr, ev_reprB, ev_reprT, ev_eqRp, ev_slL, ev_slT, ev_slS, ev_seqL, ev_seqT, ev_seqS, ev_inL, ev_inT, ev_isB, ev_dO, ev_dat0, ev_dat1, ev_dat2, ev_dat3, ev_dat4, ev_dat5, ev_dat8, ev_i0, ev_i1, ev_i2, ev_l0, ev_l1, ev_l2, dats, List.zip_cons_cons, List.zip_nil_right, List.zip_nil_left, List.reverse_singleton, List.reverse_cons, List.reverse_nil, wYes, List.getElem?_cons_zero, List.getElem?_cons_succ, List.set_cons_zero, List.set_cons_succ, List.map_cons, List.map_nil, List.cons_append, List.nil_append, List.append_nil, List.replicate, List.length_cons, List.length_nil, Nat.reduceAdd, Nat.reduceSub, Option.some.injEq, List.append_eq, Nat.zero_add, exists_eq', exists_eq_left', Sl.mu.injEq, Mu.l.injEq, Sl.sh.injEq, W.p.injEq, true_and, and_true, or_true, true_or, ite_true, ite_false, if_true, if_false, Bool.false_eq_true, decide_eq_true_eq]
        exact q
    · refine ⟨by decide, cmulR (by decide) (by decide), cmulL (by decide) (by decide), by decide, p18, r_twoP fun d hd => ?_⟩
      rcases hd with rfl | rfl
      · simp only [wSeq2, wNext, wRet, wDrop, wIfS, wSet, wSetO, wSetN, wSetC, wSetIx, wSetI, wSetBx, wSetB, wAug, wApp, wAsg, wPar, wNilO, wConsO, wConsN, wL2N, putR, noUn, wVar, wC, wNil, wCons, wTup, wLst, wFz, wOp, wB, wAnd, wOr, wNot, wAndV, wOrV, wNotV, wIf, wNeg, wCB, wCL, wCallD, wRetB, wIsi, wSl, wNoPart, wPart, wRev, wFrz, wLend, wLendT, wLendL, muW, wFor, wSeq, wRange1, wRange2, wLc, wipeR, wgName, wgTup, wgCons, wgNil, startR, wJoin, wZip, wEnum, wEnumA, wDisp1, wDGet2, wBrk, wCnt, wIxOx, wIxO, wPopSet, wPopAt, wPopAtSet, popAtW, wExt, wSet2, xE, xT, xA, xCons, xTup, xLst, xFz, xOp, xB, xNot, xAnd, xOr, xSl, xCB, xCallD, xCallX, xCallL, xRet, xDrop, xIfS, xSet, xAsg, wRaise, wTry, wHandle, outPs, wXf, wXis, wChain, wCat, wLm, gCnt, ev_addI, ev_addS, ev_addT, ev_addL, ev_mulI, ev_I, ev_I0, ev_ltI, ev_ltS, ev_ge, ev_eqI, ev_eqS, ev_eqB, ev_p0, ev_p1, ev_p2, ev_lenL, ev_lenT, ev_lenS, ev_lenQ, ev_lenK, ev_tupL, ev_tupT, ev_lisL, ev_lisT, ev_intI, ev_intB, ev_max2, ev_min2, ev_repr, ev_reprB, ev_reprT, ev_eqRp, ev_slL, ev_slT, ev_slS, ev_seqL, ev_seqT, ev_seqS, ev_inL, ev_inT, ev_isB, ev_dO, ev_dat0, ev_dat1, ev_dat2, ev_dat3, ev_dat4, ev_dat5, ev_dat8, ev_i0, ev_i1, ev_i2, ev_l0, ev_l1, ev_l2, dats, List.zip_cons_cons, List.zip_nil_right, List.zip_nil_left, List.reverse_singleton, List.reverse_cons, List.reverse_nil, wYes, List.getElem?_cons_zero, List.getElem?_cons_succ, List.set_cons_zero, List.set_cons_succ, List.map_cons, List.map_nil, List.cons_append, List.nil_append, List.append_nil, List.replicate, List.length_cons, List.length_nil, Nat.reduceAdd, Nat.reduceSub, Option.some.injEq, List.append_eq, Nat.zero_add, exists_eq', exists_eq_left', Sl.mu.injEq, Mu.l.injEq, Sl.sh.injEq, W.p.injEq, true_and, and_true, or_true, true_or, ite_true, ite_false, if_true, if_false, Bool.false_eq_true, decide_eq_true_eq]
        exact q
      · simp only [wSeq2, wNext, wRet, wDrop, wIfS, wSet, wSetO, wSetN, wSetC, wSetIx, wSetI, wSetBx, wSetB, wAug, wApp, wAsg, wPar, wNilO, wConsO, wConsN, wL2N, putR, noUn, wVar, wC, wNil, wCons, wTup, wLst, wFz, wOp, wB, wAnd, wOr, wNot, wAndV, wOrV, wNotV, wIf, wNeg, wCB, wCL, wCallD, wRetB, wIsi, wSl, wNoPart, wPart, wRev, wFrz, wLend, wLendT, wLendL, muW, wFor, wSeq, wRange1, wRange2, wLc, wipeR, wgName, wgTup, wgCons, wgNil, startR, wJoin, wZip, wEnum, wEnumA, wDisp1, wDGet2, wBrk, wCnt, wIxOx, wIxO, wPopSet, wPopAt, wPopAtSet, popAtW, wExt, wSet2, xE, xT, xA, xCons, xTup, xLst, xFz, xOp, xB, xNot, xAnd, xOr, xSl, xCB, xCallD, xCallX, xCallL, xRet, xDrop, xIfS, xSet, xAsg, wRaise, wTry, wHandle, outPs, wXf, wXis, wChain, wCat, wLm, gCnt, ev_addI, ev_addS, ev_addT, ev_addL, ev_mulI, ev_I, ev_I0, ev_ltI, ev_ltS, ev_ge, ev_eqI, ev_eqS, ev_eqB, ev_p0, ev_p1, ev_p2, ev_lenL, ev_lenT, ev_lenS, ev_lenQ, ev_lenK, ev_tupL, ev_tupT, ev_lisL, ev_lisT, ev_intI, ev_intB, ev_max2, ev_min2, ev_repr, ev_reprB, ev_reprT, ev_eqRp, ev_slL, ev_slT, ev_slS, ev_seqL, ev_seqT, ev_seqS, ev_inL, ev_inT, ev_isB, ev_dO, ev_dat0, ev_dat1, ev_dat2, ev_dat3, ev_dat4, ev_dat5, ev_dat8, ev_i0, ev_i1, ev_i2, ev_l0, ev_l1, ev_l2, dats, List.zip_cons_cons, List.zip_nil_right, List.zip_nil_left, List.reverse_singleton, List.reverse_cons, List.reverse_nil, wYes, List.getElem?_cons_zero, List.getElem?_cons_succ, List.set_cons_zero, List.set_cons_succ, List.map_cons, List.map_nil, List.cons_append, List.nil_append, List.append_nil, List.replicate, List.length_cons, List.length_nil, Nat.reduceAdd, Nat.reduceSub, Option.some.injEq, List.append_eq, Nat.zero_add, exists_eq', exists_eq_left', Sl.mu.injEq, Mu.l.injEq, Sl.sh.injEq, W.p.injEq, true_and, and_true, or_true, true_or, ite_true, ite_false, if_true, if_false, Bool.false_eq_true, decide_eq_true_eq]
        exact q
/-! ### names -/
abbrev Low (x : Str) : Prop := ∀ c ∈ x.cps.toList, 97 ≤ c ∧ c ≤ 122
structure NameOk (x : Str) : Prop where
  ok : SOk x
  len : x.length ≤ 16
  pos : 1 ≤ x.length
  six : x.length ≤ 6
  low : Low x
theorem r_take {a : Addr} {m : Int} {Φ : W → Prop} (h0 : 0 < m) (h1 : m < 1000000) (q : ∀ r, 0 ≤ r → r < m → Φ (.d (.int r))) : F_law_take [.p a, .d (.int m)] Φ := ⟨a, m, rfl, h0, h1, q⟩
theorem intsFrom_get {lo : Int} {n i : Nat} {d : D} (h : (intsFrom lo n)[i]? = some d) : i < n ∧ d = .int (lo + i) := by
  unfold intsFrom at h
  rw [List.getElem?_map] at h
  cases q : (List.range n)[i]? with
  | none => rw [q] at h; cases h
  | some j =>
    rw [q] at h
    cases h
    obtain ⟨h1, h2⟩ := List.getElem?_eq_some_iff.mp q
    rw [List.getElem_range] at h2
    subst h2
    exact ⟨by simpa using h1, rfl⟩
theorem intsFrom_len {lo : Int} {n : Nat} : (intsFrom lo n).length = n := by
  unfold intsFrom
  rw [List.length_map, List.length_range]
theorem cut_len (x : Str) (lo hi : Option Int) : (cutS x lo hi).length ≤ x.length := by
  have e : (cutS x lo hi).length = (cutS x lo hi).cps.toList.length := by rw [Array.length_toList]; rfl
  have e2 : x.length = x.cps.toList.length := by rw [Array.length_toList]; rfl
  rw [e, e2]
  unfold cutS
  simp
  omega
theorem app_len (x y : Str) : (x ++ y).length = x.length + y.length := by
  show (x.cps ++ y.cps).size = _
  rw [Array.size_append]
  rfl
theorem small_line {n : Nat} (h : n ≤ 1000) : n ≤ sizeLine := le_line h
theorem nameApp {x y : Str} (hx : SOk x) (hy : SOk y) (h : x.length + y.length ≤ 16) : SOk (x ++ y) := sok_app hx hy (small_line (by omega))
theorem sum_ones : ∀ ls : List Str, (∀ x ∈ ls, x.length = 1) → (ls.map (·.length)).sum = ls.length
  | [], _ => rfl
  | l :: ls, h => by
    rw [List.map_cons, List.sum_cons, sum_ones ls fun x hx => h x (List.mem_cons_of_mem _ hx), h l List.mem_cons_self, List.length_cons]
    omega
def letters : Str := "abcdefghijklmnopqrstuvwxyz"
theorem letters_len : letters.length = 26 := by decide +kernel
theorem letters_sok : SOk letters := ⟨by decide +kernel, by rw [letters_len]; exact small_line (by decide)⟩
theorem letters_low : ∀ c ∈ letters.cps.toList, 97 ≤ c ∧ c ≤ 122 := by decide +kernel
theorem letter_ok {c : Nat} (h : c ∈ letters.cps.toList) : SOk ⟨#[c]⟩ := sok_one letters_sok h
theorem r_letter {i : Int} {Φ : W → Prop} (h0 : 0 ≤ i) (h1 : i < 26) (q : ∀ y : Str, SOk y → y.length = 1 → Low y → Φ (.d (.str y))) : oIx (.d (.str letters)) (.d (.int i)) Φ :=
  r_ixc h0 (by rw [letters_len]; exact h1) fun c hc => q _ (letter_ok hc) rfl fun c' hc' => by
    have e : c' = c := by simpa using hc'
    rw [e]
    exact letters_low c hc
/-- the i-th letter -/
def sgn (z : Int) : Str := ⟨#[97 + z.toNat]⟩
theorem letters_at : ∀ n : Nat, n < 26 → letters.cps.toList[n]? = some (97 + n) := by decide +kernel
theorem r_sgn {i : Int} {Φ : W → Prop} (h0 : 0 ≤ i) (h1 : i < 26) (q : SOk (sgn i) → (sgn i).length = 1 → Φ (.d (.str (sgn i)))) : oIx (.d (.str letters)) (.d (.int i)) Φ := by
  obtain ⟨c, e, e2⟩ := atI_some (xs := letters.cps.toList) h0 (by rw [Array.length_toList]; show i < (letters.length : Int); rw [letters_len]; exact h1)
  have e3 := letters_at i.toNat (by omega)
  rw [e] at e3
  have ec : c = 97 + i.toNat := Option.some.inj e3
  unfold oIx
  simp only [e2]
  subst ec
  exact q (letter_ok (List.mem_of_getElem? e)) rfl
theorem cps_app (x y : Str) : (x ++ y).cps.toList = x.cps.toList ++ y.cps.toList := by
  show (x.cps ++ y.cps).toList = _
  rw [Array.toList_append]
theorem sgn_inj {A B : Str} {i j : Int} (h0 : 0 ≤ i) (h1 : 0 ≤ j) (h : A ++ sgn i ++ B = A ++ sgn j ++ B) : i = j := by
  have e := congrArg (fun x : Str => x.cps.toList) h
  simp only [cps_app] at e
  have e2 := List.append_cancel_left (List.append_cancel_right e)
  have e3 : [97 + i.toNat] = [97 + j.toNat] := e2
  have e4 := (List.cons.inj e3).1
  omega
def zzz : Str := "zzzzzz"
structure Names (xs : List Str) : Prop where
  ok : ∀ x ∈ xs, NameOk x
  nd : xs.Nodup
  nz : ∀ x ∈ xs, x ≠ zzz
def F_law_names : FW := fun ws Φ => ∃ a m, ws = [.p a, .d (.int m)] ∧ 0 < m ∧ m ≤ 26 ∧ ∀ xs : List Str, (xs.length : Int) = m → Names xs → Φ (.d (.list (xs.map PyData.str)))
theorem l_law_names (ws : List W) (Φ : W → Prop) (h : F_law_names ws Φ) : ws.length = 2 := by
  obtain ⟨a, m, rfl, _⟩ := h
  rfl
def wordsN : List PyData := [.str "rooms", .str "door", .str "faces", .str "walker", .str "pass", .str "hall", .str "back", .str "none"]
theorem words_ok : ∀ d ∈ wordsN, ∃ w, d = .str w ∧ NameOk w ∧ w ≠ zzz := by
  intro d hd
  have key : ∀ w : Str, PyData.strOk w = true → 1 ≤ w.length → w.length ≤ 6 → (w.cps.toList.all fun c => decide (97 ≤ c) && decide (c ≤ 122)) = true → NameOk w := fun w h1 h0 h2 h3 => ⟨⟨h1, small_line (by omega)⟩, by omega, h0, h2, fun c hc => by
    have := List.all_eq_true.mp h3 c hc
    simpa using this⟩
  simp only [wordsN, List.mem_cons, List.not_mem_nil, or_false] at hd
  rcases hd with rfl | rfl | rfl | rfl | rfl | rfl | rfl | rfl <;> exact ⟨_, rfl, key _ (by decide +kernel) (by decide +kernel) (by decide +kernel) (by decide +kernel), by decide +kernel⟩
theorem set_nodup {w : Str} : ∀ {xs : List Str}, w ∉ xs → xs.Nodup → ∀ j, (xs.set j w).Nodup
  | [], _, _, j => by simp
  | x :: xs, hw, nd, 0 => by
    rw [List.set_cons_zero, List.nodup_cons]
    exact ⟨fun z => hw (List.mem_cons_of_mem _ z), (List.nodup_cons.mp nd).2⟩
  | x :: xs, hw, nd, j + 1 => by
    rw [List.set_cons_succ, List.nodup_cons]
    rw [List.nodup_cons] at nd
    refine ⟨fun z => ?_, set_nodup (fun y => hw (List.mem_cons_of_mem _ y)) nd.2 j⟩
    rcases List.mem_or_eq_of_mem_set z with y | y
    · exact nd.1 y
    · exact hw (by rw [y]; exact List.mem_cons_self)
theorem any_str (name : Str) : ∀ ks : List Str, ((ks.map PyData.str).any fun y => PyData.eqv y (.str name)) = ks.any fun y => y == name
  | [] => rfl
  | k :: ks => by rw [List.map_cons, List.any_cons, List.any_cons, any_str name ks, PyData.eqv]
theorem m_law_names (ws : List W) (Φ : W → Prop) (h : F_law_names ws Φ) : w_law_names F_law_take (startR n_law_names ws) ⟨fun _ => Φ (.d .none), Φ, fun _ => False, fun _ => False, fun _ _ => False⟩ := by
  obtain ⟨a, m, rfl, h0, h1, q⟩ := h
  simp only [w_law_names, n_law_names, wSeq2, wNext, wRet, wDrop, wIfS, wSet, wSetO, wSetN, wSetC, wSetIx, wSetI, wSetBx, wSetB, wAug, wApp, wAsg, wPar, wNilO, wConsO, wConsN, wL2N, putR, noUn, wVar, wC, wNil, wCons, wTup, wLst, wFz, wOp, wB, wAnd, wOr, wNot, wAndV, wOrV, wNotV, wIf, wNeg, wCB, wCL, wCallD, wRetB, wIsi, wSl, wNoPart, wPart, wRev, wFrz, wLend, wLendT, wLendL, muW, wFor, wSeq, wRange1, wRange2, wLc, wipeR, wgName, wgTup, wgCons, wgNil, startR, wJoin, wZip, wEnum, wEnumA, wDisp1, wDGet2, wBrk, wCnt, wIxOx, wIxO, wPopSet, wPopAt, wPopAtSet, popAtW, wExt, wSet2, xE, xT, xA, xCons, xTup, xLst, xFz, xOp, xB, xNot, xAnd, xOr, xSl, xCB, xCallD, xCallX, xCallL, xRet, xDrop, xIfS, xSet, xAsg, wRaise, wTry, wHandle, outPs, wXf, wXis, wChain, wCat, wLm, gCnt, ev_addI, ev_addS, ev_addT, ev_addL, ev_mulI, ev_I, ev_I0, ev_ltI, ev_ltS, ev_ge, ev_eqI, ev_eqS, ev_eqB, ev_p0, ev_p1, ev_p2, ev_lenL, ev_lenT, ev_lenS, ev_lenQ, ev_lenK, ev_tupL, ev_tupT, ev_lisL, ev_lisT, ev_intI, ev_intB, ev_max2, ev_min2, ev_repr, ev_reprB, ev_reprT, ev_eqRp, ev_slL, ev_slT, ev_slS, ev_seqL, ev_seqT, ev_seqS, ev_inL, ev_inT, ev_isB, ev_dO, ev_dat0, ev_dat1, ev_dat2, ev_dat3, ev_dat4, ev_dat5, ev_dat8, ev_i0, ev_i1, ev_i2, ev_l0, ev_l1, ev_l2, dats, List.zip_cons_cons, List.zip_nil_right, List.zip_nil_left, List.reverse_singleton, List.reverse_cons, List.reverse_nil, wYes, List.getElem?_cons_zero, List.getElem?_cons_succ, List.set_cons_zero, List.set_cons_succ, List.map_cons, List.map_nil, List.cons_append, List.nil_append, List.append_nil, List.replicate, List.length_cons, List.length_nil, Nat.reduceAdd, Nat.reduceSub, Option.some.injEq, List.append_eq, Nat.zero_add, exists_eq', exists_eq_left', Sl.mu.injEq, Mu.l.injEq, Sl.sh.injEq, W.p.injEq, true_and, and_true, or_true, true_or, ite_true, ite_false, if_true, if_false, Bool.false_eq_true, decide_eq_true_eq]
  refine r_take (by decide) (by decide) fun j hj0 hj => ?_
  simp only [wSeq2, wNext, wRet, wDrop, wIfS, wSet, wSetO, wSetN, wSetC, wSetIx, wSetI, wSetBx, wSetB, wAug, wApp, wAsg, wPar, wNilO, wConsO, wConsN, wL2N, putR, noUn, wVar, wC, wNil, wCons, wTup, wLst, wFz, wOp, wB, wAnd, wOr, wNot, wAndV, wOrV, wNotV, wIf, wNeg, wCB, wCL, wCallD, wRetB, wIsi, wSl, wNoPart, wPart, wRev, wFrz, wLend, wLendT, wLendL, muW, wFor, wSeq, wRange1, wRange2, wLc, wipeR, wgName, wgTup, wgCons, wgNil, startR, wJoin, wZip, wEnum, wEnumA, wDisp1, wDGet2, wBrk, wCnt, wIxOx, wIxO, wPopSet, wPopAt, wPopAtSet, popAtW, wExt, wSet2, xE, xT, xA, xCons, xTup, xLst, xFz, xOp, xB, xNot, xAnd, xOr, xSl, xCB, xCallD, xCallX, xCallL, xRet, xDrop, xIfS, xSet, xAsg, wRaise, wTry, wHandle, outPs, wXf, wXis, wChain, wCat, wLm, gCnt, ev_addI, ev_addS, ev_addT, ev_addL, ev_mulI, ev_I, ev_I0, ev_ltI, ev_ltS, ev_ge, ev_eqI, ev_eqS, ev_eqB, ev_p0, ev_p1, ev_p2, ev_lenL, ev_lenT, ev_lenS, ev_lenQ, ev_lenK, ev_tupL, ev_tupT, ev_lisL, ev_lisT, ev_intI, ev_intB, ev_max2, ev_min2, ev_repr, ev_reprB, ev_reprT, ev_eqRp, ev_slL, ev_slT, ev_slS, ev_seqL, ev_seqT, ev_seqS, ev_inL, ev_inT, ev_isB, ev_dO, ev_dat0, ev_dat1, ev_dat2, ev_dat3, ev_dat4, ev_dat5, ev_dat8, ev_i0, ev_i1, ev_i2, ev_l0, ev_l1, ev_l2, dats, List.zip_cons_cons, List.zip_nil_right, List.zip_nil_left, List.reverse_singleton, List.reverse_cons, List.reverse_nil, wYes, List.getElem?_cons_zero, List.getElem?_cons_succ, List.set_cons_zero, List.set_cons_succ, List.map_cons, List.map_nil, List.cons_append, List.nil_append, List.append_nil, List.replicate, List.length_cons, List.length_nil, Nat.reduceAdd, Nat.reduceSub, Option.some.injEq, List.append_eq, Nat.zero_add, exists_eq', exists_eq_left', Sl.mu.injEq, Mu.l.injEq, Sl.sh.injEq, W.p.injEq, true_and, and_true, or_true, true_or, ite_true, ite_false, if_true, if_false, Bool.false_eq_true, decide_eq_true_eq]
  refine ⟨⟨by omega, by omega⟩, ?_⟩
  refine compW_inv (fun n acc => ∃ xs : List Str, acc = xs.map PyData.str ∧ xs.length = n ∧ (∀ x ∈ xs, SOk x ∧ x.length = 1 ∧ Low x)) 0 ⟨[], rfl, rfl, by simp⟩ (fun i d acc C hd hI hC => ?_) fun acc hI => ?_
  · obtain ⟨xs, rfl, hl, hx⟩ := hI
    simp only [wSeq2, wNext, wRet, wDrop, wIfS, wSet, wSetO, wSetN, wSetC, wSetIx, wSetI, wSetBx, wSetB, wAug, wApp, wAsg, wPar, wNilO, wConsO, wConsN, wL2N, putR, noUn, wVar, wC, wNil, wCons, wTup, wLst, wFz, wOp, wB, wAnd, wOr, wNot, wAndV, wOrV, wNotV, wIf, wNeg, wCB, wCL, wCallD, wRetB, wIsi, wSl, wNoPart, wPart, wRev, wFrz, wLend, wLendT, wLendL, muW, wFor, wSeq, wRange1, wRange2, wLc, wipeR, wgName, wgTup, wgCons, wgNil, startR, wJoin, wZip, wEnum, wEnumA, wDisp1, wDGet2, wBrk, wCnt, wIxOx, wIxO, wPopSet, wPopAt, wPopAtSet, popAtW, wExt, wSet2, xE, xT, xA, xCons, xTup, xLst, xFz, xOp, xB, xNot, xAnd, xOr, xSl, xCB, xCallD, xCallX, xCallL, xRet, xDrop, xIfS, xSet, xAsg, wRaise, wTry, wHandle, outPs, wXf, wXis, wChain, wCat, wLm, gCnt, ev_addI, ev_addS, ev_addT, ev_addL, ev_mulI, ev_I, ev_I0, ev_ltI, ev_ltS, ev_ge, ev_eqI, ev_eqS, ev_eqB, ev_p0, ev_p1, ev_p2, ev_lenL, ev_lenT, ev_lenS, ev_lenQ, ev_lenK, ev_tupL, ev_tupT, ev_lisL, ev_lisT, ev_intI, ev_intB, ev_max2, ev_min2, ev_repr, ev_reprB, ev_reprT, ev_eqRp, ev_slL, ev_slT, ev_slS, ev_seqL, ev_seqT, ev_seqS, ev_inL, ev_inT, ev_isB, ev_dO, ev_dat0, ev_dat1, ev_dat2, ev_dat3, ev_dat4, ev_dat5, ev_dat8, ev_i0, ev_i1, ev_i2, ev_l0, ev_l1, ev_l2, dats, List.zip_cons_cons, List.zip_nil_right, List.zip_nil_left, List.reverse_singleton, List.reverse_cons, List.reverse_nil, wYes, List.getElem?_cons_zero, List.getElem?_cons_succ, List.set_cons_zero, List.set_cons_succ, List.map_cons, List.map_nil, List.cons_append, List.nil_append, List.append_nil, List.replicate, List.length_cons, List.length_nil, Nat.reduceAdd, Nat.reduceSub, Option.some.injEq, List.append_eq, Nat.zero_add, exists_eq', exists_eq_left', Sl.mu.injEq, Mu.l.injEq, Sl.sh.injEq, W.p.injEq, true_and, and_true, or_true, true_or, ite_true, ite_false, if_true, if_false, Bool.false_eq_true, decide_eq_true_eq]
    refine r_take (by decide) (by decide) fun r hr0 hr => ?_
    simp only [wSeq2, wNext, wRet, wDrop, wIfS, wSet, wSetO, wSetN, wSetC, wSetIx, wSetI, wSetBx, wSetB, wAug, wApp, wAsg, wPar, wNilO, wConsO, wConsN, wL2N, putR, noUn, wVar, wC, wNil, wCons, wTup, wLst, wFz, wOp, wB, wAnd, wOr, wNot, wAndV, wOrV, wNotV, wIf, wNeg, wCB, wCL, wCallD, wRetB, wIsi, wSl, wNoPart, wPart, wRev, wFrz, wLend, wLendT, wLendL, muW, wFor, wSeq, wRange1, wRange2, wLc, wipeR, wgName, wgTup, wgCons, wgNil, startR, wJoin, wZip, wEnum, wEnumA, wDisp1, wDGet2, wBrk, wCnt, wIxOx, wIxO, wPopSet, wPopAt, wPopAtSet, popAtW, wExt, wSet2, xE, xT, xA, xCons, xTup, xLst, xFz, xOp, xB, xNot, xAnd, xOr, xSl, xCB, xCallD, xCallX, xCallL, xRet, xDrop, xIfS, xSet, xAsg, wRaise, wTry, wHandle, outPs, wXf, wXis, wChain, wCat, wLm, gCnt, ev_addI, ev_addS, ev_addT, ev_addL, ev_mulI, ev_I, ev_I0, ev_ltI, ev_ltS, ev_ge, ev_eqI, ev_eqS, ev_eqB, ev_p0, ev_p1, ev_p2, ev_lenL, ev_lenT, ev_lenS, ev_lenQ, ev_lenK, ev_tupL, ev_tupT, ev_lisL, ev_lisT, ev_intI, ev_intB, ev_max2, ev_min2, ev_repr, ev_reprB, ev_reprT, ev_eqRp, ev_slL, ev_slT, ev_slS, ev_seqL, ev_seqT, ev_seqS, ev_inL, ev_inT, ev_isB, ev_dO, ev_dat0, ev_dat1, ev_dat2, ev_dat3, ev_dat4, ev_dat5, ev_dat8, ev_i0, ev_i1, ev_i2, ev_l0, ev_l1, ev_l2, dats, List.zip_cons_cons, List.zip_nil_right, List.zip_nil_left, List.reverse_singleton, List.reverse_cons, List.reverse_nil, wYes, List.getElem?_cons_zero, List.getElem?_cons_succ, List.set_cons_zero, List.set_cons_succ, List.map_cons, List.map_nil, List.cons_append, List.nil_append, List.append_nil, List.replicate, List.length_cons, List.length_nil, Nat.reduceAdd, Nat.reduceSub, Option.some.injEq, List.append_eq, Nat.zero_add, exists_eq', exists_eq_left', Sl.mu.injEq, Mu.l.injEq, Sl.sh.injEq, W.p.injEq, true_and, and_true, or_true, true_or, ite_true, ite_false, if_true, if_false, Bool.false_eq_true, decide_eq_true_eq]
    refine r_letter hr0 hr fun y hy hy1 hy2 => ?_
    refine hC _ ⟨xs ++ [y], by simp, by simp; omega, fun x hx' => ?_⟩
    rcases List.mem_append.mp hx' with z | z
    · exact hx x z
    · rw [List.mem_singleton.mp z]
      exact ⟨hy, hy1, hy2⟩
  obtain ⟨ls, rfl, hl, hx⟩ := hI
  rw [intsFrom_len] at hl
  have hsum := sum_ones ls fun x h => (hx x h).2.1
  have hnil : (Str.ofString "").length = 0 := by decide +kernel
  have hstem : SOk (Str.join "" ls) ∧ (Str.join "" ls).length ≤ 4 := by
    have hlen : (Str.join "" ls).length ≤ 4 := by
      have h1 := len_join "" ls
      rw [hsum, hnil] at h1
      omega
    refine ⟨sok_iff (fun c hc => ?_) (small_line (by omega)), hlen⟩
    rcases cps_join "" ls c hc with z | ⟨x, hx', z⟩
    · have e : (Str.ofString "").cps.toList = [] := by decide +kernel
      rw [e] at z
      cases z
    · exact (hx x hx').1.cp c z
  have hlow : Low (Str.join "" ls) := fun c hc => by
    rcases cps_join "" ls c hc with z | ⟨x, hx', z⟩
    · have e : (Str.ofString "").cps.toList = [] := by decide +kernel
      rw [e] at z
      cases z
    · exact (hx x hx').2.2 c z
  simp only [strsOfW, strsD_map]
  refine ⟨by rw [hsum, hnil]; omega, ?_⟩
  refine r_take (by decide) (by decide) fun z _ _ => ?_
  simp only [wSeq2, wNext, wRet, wDrop, wIfS, wSet, wSetO, wSetN, wSetC, wSetIx, wSetI, wSetBx, wSetB, wAug, wApp, wAsg, wPar, wNilO, wConsO, wConsN, wL2N, putR, noUn, wVar, wC, wNil, wCons, wTup, wLst, wFz, wOp, wB, wAnd, wOr, wNot, wAndV, wOrV, wNotV, wIf, wNeg, wCB, wCL, wCallD, wRetB, wIsi, wSl, wNoPart, wPart, wRev, wFrz, wLend, wLendT, wLendL, muW, wFor, wSeq, wRange1, wRange2, wLc, wipeR, wgName, wgTup, wgCons, wgNil, startR, wJoin, wZip, wEnum, wEnumA, wDisp1, wDGet2, wBrk, wCnt, wIxOx, wIxO, wPopSet, wPopAt, wPopAtSet, popAtW, wExt, wSet2, xE, xT, xA, xCons, xTup, xLst, xFz, xOp, xB, xNot, xAnd, xOr, xSl, xCB, xCallD, xCallX, xCallL, xRet, xDrop, xIfS, xSet, xAsg, wRaise, wTry, wHandle, outPs, wXf, wXis, wChain, wCat, wLm, gCnt, ev_addI, ev_addS, ev_addT, ev_addL, ev_mulI, ev_I, ev_I0, ev_ltI, ev_ltS, ev_ge, ev_eqI, ev_eqS, ev_eqB, ev_p0, ev_p1, ev_p2, ev_lenL, ev_lenT, ev_lenS, ev_lenQ, ev_lenK, ev_tupL, ev_tupT, ev_lisL, ev_lisT, ev_intI, ev_intB, ev_max2, ev_min2, ev_repr, ev_reprB, ev_reprT, ev_eqRp, ev_slL, ev_slT, ev_slS, ev_seqL, ev_seqT, ev_seqS, ev_inL, ev_inT, ev_isB, ev_dO, ev_dat0, ev_dat1, ev_dat2, ev_dat3, ev_dat4, ev_dat5, ev_dat8, ev_i0, ev_i1, ev_i2, ev_l0, ev_l1, ev_l2, dats, List.zip_cons_cons, List.zip_nil_right, List.zip_nil_left, List.reverse_singleton, List.reverse_cons, List.reverse_nil, wYes, List.getElem?_cons_zero, List.getElem?_cons_succ, List.set_cons_zero, List.set_cons_succ, List.map_cons, List.map_nil, List.cons_append, List.nil_append, List.append_nil, List.replicate, List.length_cons, List.length_nil, Nat.reduceAdd, Nat.reduceSub, Option.some.injEq, List.append_eq, Nat.zero_add, exists_eq', exists_eq_left', Sl.mu.injEq, Mu.l.injEq, Sl.sh.injEq, W.p.injEq, true_and, and_true, or_true, true_or, ite_true, ite_false, if_true, if_false, Bool.false_eq_true, decide_eq_true_eq]
  refine r_two fun d hd => ?_
  obtain ⟨stem, rfl, hs, hz⟩ : ∃ stem : Str, d = .str stem ∧ (SOk stem ∧ stem.length ≤ 5 ∧ Low stem) ∧ (stem.length ≤ 4 ∨ 102 ∈ stem.cps.toList) := by
    rcases hd with rfl | rfl
    · exact ⟨_, rfl, ⟨hstem.1, by omega, hlow⟩, .inl hstem.2⟩
    · exact ⟨_, rfl, ⟨⟨by decide +kernel, small_line (by decide +kernel)⟩, by decide +kernel, by unfold Low; decide +kernel⟩, .inr (by decide +kernel)⟩
  clear hstem hlow hd
  simp only [wSeq2, wNext, wRet, wDrop, wIfS, wSet, wSetO, wSetN, wSetC, wSetIx, wSetI, wSetBx, wSetB, wAug, wApp, wAsg, wPar, wNilO, wConsO, wConsN, wL2N, putR, noUn, wVar, wC, wNil, wCons, wTup, wLst, wFz, wOp, wB, wAnd, wOr, wNot, wAndV, wOrV, wNotV, wIf, wNeg, wCB, wCL, wCallD, wRetB, wIsi, wSl, wNoPart, wPart, wRev, wFrz, wLend, wLendT, wLendL, muW, wFor, wSeq, wRange1, wRange2, wLc, wipeR, wgName, wgTup, wgCons, wgNil, startR, wJoin, wZip, wEnum, wEnumA, wDisp1, wDGet2, wBrk, wCnt, wIxOx, wIxO, wPopSet, wPopAt, wPopAtSet, popAtW, wExt, wSet2, xE, xT, xA, xCons, xTup, xLst, xFz, xOp, xB, xNot, xAnd, xOr, xSl, xCB, xCallD, xCallX, xCallL, xRet, xDrop, xIfS, xSet, xAsg, wRaise, wTry, wHandle, outPs, wXf, wXis, wChain, wCat, wLm, gCnt, ev_addI, ev_addS, ev_addT, ev_addL, ev_mulI, ev_I, ev_I0, ev_ltI, ev_ltS, ev_ge, ev_eqI, ev_eqS, ev_eqB, ev_p0, ev_p1, ev_p2, ev_lenL, ev_lenT, ev_lenS, ev_lenQ, ev_lenK, ev_tupL, ev_tupT, ev_lisL, ev_lisT, ev_intI, ev_intB, ev_max2, ev_min2, ev_repr, ev_reprB, ev_reprT, ev_eqRp, ev_slL, ev_slT, ev_slS, ev_seqL, ev_seqT, ev_seqS, ev_inL, ev_inT, ev_isB, ev_dO, ev_dat0, ev_dat1, ev_dat2, ev_dat3, ev_dat4, ev_dat5, ev_dat8, ev_i0, ev_i1, ev_i2, ev_l0, ev_l1, ev_l2, dats, List.zip_cons_cons, List.zip_nil_right, List.zip_nil_left, List.reverse_singleton, List.reverse_cons, List.reverse_nil, wYes, List.getElem?_cons_zero, List.getElem?_cons_succ, List.set_cons_zero, List.set_cons_succ, List.map_cons, List.map_nil, List.cons_append, List.nil_append, List.append_nil, List.replicate, List.length_cons, List.length_nil, Nat.reduceAdd, Nat.reduceSub, Option.some.injEq, List.append_eq, Nat.zero_add, exists_eq', exists_eq_left', Sl.mu.injEq, Mu.l.injEq, Sl.sh.injEq, W.p.injEq, true_and, and_true, or_true, true_or, ite_true, ite_false, if_true, if_false, Bool.false_eq_true, decide_eq_true_eq]
  refine r_take (by omega) (by omega) fun at_ ha0 ha1 => ?_
  simp only [wSeq2, wNext, wRet, wDrop, wIfS, wSet, wSetO, wSetN, wSetC, wSetIx, wSetI, wSetBx, wSetB, wAug, wApp, wAsg, wPar, wNilO, wConsO, wConsN, wL2N, putR, noUn, wVar, wC, wNil, wCons, wTup, wLst, wFz, wOp, wB, wAnd, wOr, wNot, wAndV, wOrV, wNotV, wIf, wNeg, wCB, wCL, wCallD, wRetB, wIsi, wSl, wNoPart, wPart, wRev, wFrz, wLend, wLendT, wLendL, muW, wFor, wSeq, wRange1, wRange2, wLc, wipeR, wgName, wgTup, wgCons, wgNil, startR, wJoin, wZip, wEnum, wEnumA, wDisp1, wDGet2, wBrk, wCnt, wIxOx, wIxO, wPopSet, wPopAt, wPopAtSet, popAtW, wExt, wSet2, xE, xT, xA, xCons, xTup, xLst, xFz, xOp, xB, xNot, xAnd, xOr, xSl, xCB, xCallD, xCallX, xCallL, xRet, xDrop, xIfS, xSet, xAsg, wRaise, wTry, wHandle, outPs, wXf, wXis, wChain, wCat, wLm, gCnt, ev_addI, ev_addS, ev_addT, ev_addL, ev_mulI, ev_I, ev_I0, ev_ltI, ev_ltS, ev_ge, ev_eqI, ev_eqS, ev_eqB, ev_p0, ev_p1, ev_p2, ev_lenL, ev_lenT, ev_lenS, ev_lenQ, ev_lenK, ev_tupL, ev_tupT, ev_lisL, ev_lisT, ev_intI, ev_intB, ev_max2, ev_min2, ev_repr, ev_reprB, ev_reprT, ev_eqRp, ev_slL, ev_slT, ev_slS, ev_seqL, ev_seqT, ev_seqS, ev_inL, ev_inT, ev_isB, ev_dO, ev_dat0, ev_dat1, ev_dat2, ev_dat3, ev_dat4, ev_dat5, ev_dat8, ev_i0, ev_i1, ev_i2, ev_l0, ev_l1, ev_l2, dats, List.zip_cons_cons, List.zip_nil_right, List.zip_nil_left, List.reverse_singleton, List.reverse_cons, List.reverse_nil, wYes, List.getElem?_cons_zero, List.getElem?_cons_succ, List.set_cons_zero, List.set_cons_succ, List.map_cons, List.map_nil, List.cons_append, List.nil_append, List.append_nil, List.replicate, List.length_cons, List.length_nil, Nat.reduceAdd, Nat.reduceSub, Option.some.injEq, List.append_eq, Nat.zero_add, exists_eq', exists_eq_left', Sl.mu.injEq, Mu.l.injEq, Sl.sh.injEq, W.p.injEq, true_and, and_true, or_true, true_or, ite_true, ite_false, if_true, if_false, Bool.false_eq_true, decide_eq_true_eq]
  refine r_take (by decide) (by decide) fun first hf0 hf1 => ?_
  simp only [wSeq2, wNext, wRet, wDrop, wIfS, wSet, wSetO, wSetN, wSetC, wSetIx, wSetI, wSetBx, wSetB, wAug, wApp, wAsg, wPar, wNilO, wConsO, wConsN, wL2N, putR, noUn, wVar, wC, wNil, wCons, wTup, wLst, wFz, wOp, wB, wAnd, wOr, wNot, wAndV, wOrV, wNotV, wIf, wNeg, wCB, wCL, wCallD, wRetB, wIsi, wSl, wNoPart, wPart, wRev, wFrz, wLend, wLendT, wLendL, muW, wFor, wSeq, wRange1, wRange2, wLc, wipeR, wgName, wgTup, wgCons, wgNil, startR, wJoin, wZip, wEnum, wEnumA, wDisp1, wDGet2, wBrk, wCnt, wIxOx, wIxO, wPopSet, wPopAt, wPopAtSet, popAtW, wExt, wSet2, xE, xT, xA, xCons, xTup, xLst, xFz, xOp, xB, xNot, xAnd, xOr, xSl, xCB, xCallD, xCallX, xCallL, xRet, xDrop, xIfS, xSet, xAsg, wRaise, wTry, wHandle, outPs, wXf, wXis, wChain, wCat, wLm, gCnt, ev_addI, ev_addS, ev_addT, ev_addL, ev_mulI, ev_I, ev_I0, ev_ltI, ev_ltS, ev_ge, ev_eqI, ev_eqS, ev_eqB, ev_p0, ev_p1, ev_p2, ev_lenL, ev_lenT, ev_lenS, ev_lenQ, ev_lenK, ev_tupL, ev_tupT, ev_lisL, ev_lisT, ev_intI, ev_intB, ev_max2, ev_min2, ev_repr, ev_reprB, ev_reprT, ev_eqRp, ev_slL, ev_slT, ev_slS, ev_seqL, ev_seqT, ev_seqS, ev_inL, ev_inT, ev_isB, ev_dO, ev_dat0, ev_dat1, ev_dat2, ev_dat3, ev_dat4, ev_dat5, ev_dat8, ev_i0, ev_i1, ev_i2, ev_l0, ev_l1, ev_l2, dats, List.zip_cons_cons, List.zip_nil_right, List.zip_nil_left, List.reverse_singleton, List.reverse_cons, List.reverse_nil, wYes, List.getElem?_cons_zero, List.getElem?_cons_succ, List.set_cons_zero, List.set_cons_succ, List.map_cons, List.map_nil, List.cons_append, List.nil_append, List.append_nil, List.replicate, List.length_cons, List.length_nil, Nat.reduceAdd, Nat.reduceSub, Option.some.injEq, List.append_eq, Nat.zero_add, exists_eq', exists_eq_left', Sl.mu.injEq, Mu.l.injEq, Sl.sh.injEq, W.p.injEq, true_and, and_true, or_true, true_or, ite_true, ite_false, if_true, if_false, Bool.false_eq_true, decide_eq_true_eq]
  refine r_take (by decide) (by decide) fun y hy0 hy1 => ?_
  simp only [wSeq2, wNext, wRet, wDrop, wIfS, wSet, wSetO, wSetN, wSetC, wSetIx, wSetI, wSetBx, wSetB, wAug, wApp, wAsg, wPar, wNilO, wConsO, wConsN, wL2N, putR, noUn, wVar, wC, wNil, wCons, wTup, wLst, wFz, wOp, wB, wAnd, wOr, wNot, wAndV, wOrV, wNotV, wIf, wNeg, wCB, wCL, wCallD, wRetB, wIsi, wSl, wNoPart, wPart, wRev, wFrz, wLend, wLendT, wLendL, muW, wFor, wSeq, wRange1, wRange2, wLc, wipeR, wgName, wgTup, wgCons, wgNil, startR, wJoin, wZip, wEnum, wEnumA, wDisp1, wDGet2, wBrk, wCnt, wIxOx, wIxO, wPopSet, wPopAt, wPopAtSet, popAtW, wExt, wSet2, xE, xT, xA, xCons, xTup, xLst, xFz, xOp, xB, xNot, xAnd, xOr, xSl, xCB, xCallD, xCallX, xCallL, xRet, xDrop, xIfS, xSet, xAsg, wRaise, wTry, wHandle, outPs, wXf, wXis, wChain, wCat, wLm, gCnt, ev_addI, ev_addS, ev_addT, ev_addL, ev_mulI, ev_I, ev_I0, ev_ltI, ev_ltS, ev_ge, ev_eqI, ev_eqS, ev_eqB, ev_p0, ev_p1, ev_p2, ev_lenL, ev_lenT, ev_lenS, ev_lenQ, ev_lenK, ev_tupL, ev_tupT, ev_lisL, ev_lisT, ev_intI, ev_intB, ev_max2, ev_min2, ev_repr, ev_reprB, ev_reprT, ev_eqRp, ev_slL, ev_slT, ev_slS, ev_seqL, ev_seqT, ev_seqS, ev_inL, ev_inT, ev_isB, ev_dO, ev_dat0, ev_dat1, ev_dat2, ev_dat3, ev_dat4, ev_dat5, ev_dat8, ev_i0, ev_i1, ev_i2, ev_l0, ev_l1, ev_l2, dats, List.zip_cons_cons, List.zip_nil_right, List.zip_nil_left, List.reverse_singleton, List.reverse_cons, List.reverse_nil, wYes, List.getElem?_cons_zero, List.getElem?_cons_succ, List.set_cons_zero, List.set_cons_succ, List.map_cons, List.map_nil, List.cons_append, List.nil_append, List.append_nil, List.replicate, List.length_cons, List.length_nil, Nat.reduceAdd, Nat.reduceSub, Option.some.injEq, List.append_eq, Nat.zero_add, exists_eq', exists_eq_left', Sl.mu.injEq, Mu.l.injEq, Sl.sh.injEq, W.p.injEq, true_and, and_true, or_true, true_or, ite_true, ite_false, if_true, if_false, Bool.false_eq_true, decide_eq_true_eq]
  refine r_ixl hy0 hy1 fun d hd => ?_
  obtain ⟨step, rfl, hp⟩ : ∃ step : Int, d = .int step ∧ (step = 7 ∨ step = 1 ∨ step = 11 ∨ step = 25) := by
    have := List.mem_of_getElem? hd
    simp only [List.mem_cons, List.not_mem_nil, or_false] at this
    rcases this with rfl | rfl | rfl | rfl
    · exact ⟨_, rfl, .inl rfl⟩
    · exact ⟨_, rfl, .inr (.inl rfl)⟩
    · exact ⟨_, rfl, .inr (.inr (.inl rfl))⟩
    · exact ⟨_, rfl, .inr (.inr (.inr rfl))⟩
  refine ⟨⟨by omega, by omega⟩, ?_⟩
  let mk : Nat → Str := fun i => cutS stem none (some at_) ++ sgn ((first + step * (0 + (i : Int))) % 26) ++ cutS stem (some at_) none
  have c1 := cut_len stem none (some at_)
  have c2 := cut_len stem (some at_) none
  have k1 := sok_cut hs.1 none (some at_)
  have k2 := sok_cut hs.1 (some at_) none
  have c12 : (cutS stem none (some at_)).length + (cutS stem (some at_) none).length = stem.length ∧ (∀ c ∈ stem.cps.toList, c ∈ (cutS stem none (some at_)).cps.toList ∨ c ∈ (cutS stem (some at_) none).cps.toList) ∧ Low (cutS stem none (some at_)) ∧ Low (cutS stem (some at_) none) := by
    obtain ⟨n, rfl⟩ := Int.eq_ofNat_of_zero_le ha0
    have hn : n ≤ stem.length := by omega
    have e1 : (cutS stem none (some (n : Int))).cps.toList = stem.cps.toList.take n := by
      unfold cutS
      rw [HT.sIx_none, HT.sIx_nat, Nat.min_eq_left hn]
      simp
    have e2 : (cutS stem (some (n : Int)) none).cps.toList = stem.cps.toList.drop n := by
      unfold cutS
      rw [HT.sIx_none, HT.sIx_nat, Nat.min_eq_left hn]
      show (List.take (stem.length - n) (stem.cps.toList.drop n)).toArray.toList = _
      have e3 : stem.length = stem.cps.toList.length := by rw [Array.length_toList]; rfl
      rw [e3, ← List.length_drop, List.take_length]
    have l1 : (cutS stem none (some (n : Int))).length = (cutS stem none (some (n : Int))).cps.toList.length := by rw [Array.length_toList]; rfl
    have l2 : (cutS stem (some (n : Int)) none).length = (cutS stem (some (n : Int)) none).cps.toList.length := by rw [Array.length_toList]; rfl
    have l3 : stem.length = stem.cps.toList.length := by rw [Array.length_toList]; rfl
    refine ⟨?_, fun c hc => ?_, fun c hc => hs.2.2 c (by rw [e1] at hc; exact List.mem_of_mem_take hc), fun c hc => hs.2.2 c (by rw [e2] at hc; exact List.mem_of_mem_drop hc)⟩
    · rw [l1, l2, e1, e2, List.length_take, List.length_drop, ← l3]
      omega
    · rw [e1, e2]
      have := (List.take_append_drop n stem.cps.toList).symm ▸ hc
      exact List.mem_append.mp this
  have hsgn : ∀ i : Nat, SOk (sgn ((first + step * (0 + (i : Int))) % 26)) ∧ (sgn ((first + step * (0 + (i : Int))) % 26)).length = 1 := fun i => by
    refine ⟨?_, rfl⟩
    have h0 : 0 ≤ (first + step * (0 + (i : Int))) % 26 := Int.emod_nonneg _ (by decide)
    have h1 : (first + step * (0 + (i : Int))) % 26 < 26 := Int.emod_lt_of_pos _ (by decide)
    exact letter_ok (List.mem_of_getElem? (letters_at _ (by omega)))
  have nm : ∀ i : Nat, NameOk (mk i) ∧ mk i ≠ zzz := fun i => by
    obtain ⟨s1, s2⟩ := hsgn i
    have n1 := nameApp k1 s1 (by omega)
    have hlen6 : (cutS stem none (some at_) ++ sgn ((first + step * (0 + (i : Int))) % 26) ++ cutS stem (some at_) none).length = stem.length + 1 := by
      rw [app_len, app_len]
      omega
    refine ⟨⟨nameApp n1 k2 (by rw [app_len]; omega), by show (_ ++ _ ++ _ : Str).length ≤ 16; omega, by show 1 ≤ (_ ++ _ ++ _ : Str).length; omega, by show (_ ++ _ ++ _ : Str).length ≤ 6; omega, fun c hc => ?_⟩, fun e => ?_⟩
    · have hc' : c ∈ (cutS stem none (some at_) ++ sgn ((first + step * (0 + (i : Int))) % 26) ++ cutS stem (some at_) none : Str).cps.toList := hc
      rw [cps_app, cps_app] at hc'
      rcases List.mem_append.mp hc' with z | z
      · rcases List.mem_append.mp z with z | z
        · exact c12.2.2.1 c z
        · have e0 : c = 97 + ((first + step * (0 + (i : Int))) % 26).toNat := by simpa [sgn] using z
          have h0 : 0 ≤ (first + step * (0 + (i : Int))) % 26 := Int.emod_nonneg _ (by decide)
          have h1 : (first + step * (0 + (i : Int))) % 26 < 26 := Int.emod_lt_of_pos _ (by decide)
          omega
      · exact c12.2.2.2 c z
    have hlen : (mk i).length = stem.length + 1 := by
      show (_ ++ _ ++ _ : Str).length = _
      rw [app_len, app_len]
      omega
    rcases hz with z | z
    · rw [e] at hlen
      have : zzz.length = 6 := by decide +kernel
      omega
    · have hin : 102 ∈ (mk i).cps.toList := by
        show 102 ∈ (_ ++ _ ++ _ : Str).cps.toList
        rw [cps_app, cps_app]
        rcases c12.2.1 _ z with y | y
        · exact List.mem_append_left _ (List.mem_append_left _ y)
        · exact List.mem_append_right _ y
      rw [e] at hin
      exact absurd hin (by decide +kernel)
  have inj : ∀ i j : Nat, i < 26 → j < 26 → mk i = mk j → i = j := fun i j hi hj e => by
    have h := sgn_inj (Int.emod_nonneg _ (by decide)) (Int.emod_nonneg _ (by decide)) e
    rcases hp with rfl | rfl | rfl | rfl <;> omega
  have nms : ∀ n : Nat, n ≤ 26 → Names ((List.range n).map mk) := fun n hn => ⟨fun x hx => by
    obtain ⟨i, _, rfl⟩ := List.mem_map.mp hx
    exact (nm i).1, by
    rw [List.nodup_iff_pairwise_ne, List.pairwise_map]
    refine List.Pairwise.imp_of_mem (fun {i j} hi hj hne e => hne (inj i j ?_ ?_ e)) List.nodup_range
    · have := List.mem_range.mp hi; omega
    · have := List.mem_range.mp hj; omega, fun x hx => by
    obtain ⟨i, _, rfl⟩ := List.mem_map.mp hx
    exact (nm i).2⟩
  refine forW_inv (fun n ρ' => ∃ (s9 s10 : Sl), ρ' = [.sh (.p a), .sh (.d (.int m)), .sh (.d (.str letters)), .sh (.d (.list wordsN)), .sh (.d (.str stem)), .sh (.d (.int at_)), .sh (.d (.int first)), .sh (.d (.int step)), .mu (.l (((List.range n).map mk).map PyData.str)), s9, s10, .un, .un]) 0 ⟨.un, .un, rfl⟩ (fun i d ρ' C hd hI hC => ?_) fun ρ' hI => ?_
  · obtain ⟨s9, s10, rfl⟩ := hI
    obtain ⟨hi, rfl⟩ := intsFrom_get hd
    obtain ⟨s1, s2⟩ := hsgn i
    have n1 := nameApp k1 s1 (by omega)
    simp only [wSeq2, wNext, wRet, wDrop, wIfS, wSet, wSetO, wSetN, wSetC, wSetIx, wSetI, wSetBx, wSetB, wAug, wApp, wAsg, wPar, wNilO, wConsO, wConsN, wL2N, putR, noUn, wVar, wC, wNil, wCons, wTup, wLst, wFz, wOp, wB, wAnd, wOr, wNot, wAndV, wOrV, wNotV, wIf, wNeg, wCB, wCL, wCallD, wRetB, wIsi, wSl, wNoPart, wPart, wRev, wFrz, wLend, wLendT, wLendL, muW, wFor, wSeq, wRange1, wRange2, wLc, wipeR, wgName, wgTup, wgCons, wgNil, startR, wJoin, wZip, wEnum, wEnumA, wDisp1, wDGet2, wBrk, wCnt, wIxOx, wIxO, wPopSet, wPopAt, wPopAtSet, popAtW, wExt, wSet2, xE, xT, xA, xCons, xTup, xLst, xFz, xOp, xB, xNot, xAnd, xOr, xSl, xCB, xCallD, xCallX, xCallL, xRet, xDrop, xIfS, xSet, xAsg, wRaise, wTry, wHandle, outPs, wXf, wXis, wChain, wCat, wLm, gCnt, ev_addI, ev_addS, ev_addT, ev_addL, ev_mulI, ev_I, ev_I0, ev_ltI, ev_ltS, ev_ge, ev_eqI, ev_eqS, ev_eqB, ev_p0, ev_p1, ev_p2, ev_lenL, ev_lenT, ev_lenS, ev_lenQ, ev_lenK, ev_tupL, ev_tupT, ev_lisL, ev_lisT, ev_intI, ev_intB, ev_max2, ev_min2, ev_repr, ev_reprB, ev_reprT, ev_eqRp, ev_slL, ev_slT, ev_slS, ev_seqL, ev_seqT, ev_seqS, ev_inL, ev_inT, ev_isB, ev_dO, ev_dat0, ev_dat1, ev_dat2, ev_dat3, ev_dat4, ev_dat5, ev_dat8, ev_i0, ev_i1, ev_i2, ev_l0, ev_l1, ev_l2, dats, List.zip_cons_cons, List.zip_nil_right, List.zip_nil_left, List.reverse_singleton, List.reverse_cons, List.reverse_nil, wYes, List.getElem?_cons_zero, List.getElem?_cons_succ, List.set_cons_zero, List.set_cons_succ, List.map_cons, List.map_nil, List.cons_append, List.nil_append, List.append_nil, List.replicate, List.length_cons, List.length_nil, Nat.reduceAdd, Nat.reduceSub, Option.some.injEq, List.append_eq, Nat.zero_add, exists_eq', exists_eq_left', Sl.mu.injEq, Mu.l.injEq, Sl.sh.injEq, W.p.injEq, true_and, and_true, or_true, true_or, ite_true, ite_false, if_true, if_false, Bool.false_eq_true, decide_eq_true_eq]
    refine ⟨cmulL (by omega) (by omega), by decide, r_sgn (Int.emod_nonneg _ (by decide)) (Int.emod_lt_of_pos _ (by decide)) fun _ _ => ?_⟩
    simp only [wSeq2, wNext, wRet, wDrop, wIfS, wSet, wSetO, wSetN, wSetC, wSetIx, wSetI, wSetBx, wSetB, wAug, wApp, wAsg, wPar, wNilO, wConsO, wConsN, wL2N, putR, noUn, wVar, wC, wNil, wCons, wTup, wLst, wFz, wOp, wB, wAnd, wOr, wNot, wAndV, wOrV, wNotV, wIf, wNeg, wCB, wCL, wCallD, wRetB, wIsi, wSl, wNoPart, wPart, wRev, wFrz, wLend, wLendT, wLendL, muW, wFor, wSeq, wRange1, wRange2, wLc, wipeR, wgName, wgTup, wgCons, wgNil, startR, wJoin, wZip, wEnum, wEnumA, wDisp1, wDGet2, wBrk, wCnt, wIxOx, wIxO, wPopSet, wPopAt, wPopAtSet, popAtW, wExt, wSet2, xE, xT, xA, xCons, xTup, xLst, xFz, xOp, xB, xNot, xAnd, xOr, xSl, xCB, xCallD, xCallX, xCallL, xRet, xDrop, xIfS, xSet, xAsg, wRaise, wTry, wHandle, outPs, wXf, wXis, wChain, wCat, wLm, gCnt, ev_addI, ev_addS, ev_addT, ev_addL, ev_mulI, ev_I, ev_I0, ev_ltI, ev_ltS, ev_ge, ev_eqI, ev_eqS, ev_eqB, ev_p0, ev_p1, ev_p2, ev_lenL, ev_lenT, ev_lenS, ev_lenQ, ev_lenK, ev_tupL, ev_tupT, ev_lisL, ev_lisT, ev_intI, ev_intB, ev_max2, ev_min2, ev_repr, ev_reprB, ev_reprT, ev_eqRp, ev_slL, ev_slT, ev_slS, ev_seqL, ev_seqT, ev_seqS, ev_inL, ev_inT, ev_isB, ev_dO, ev_dat0, ev_dat1, ev_dat2, ev_dat3, ev_dat4, ev_dat5, ev_dat8, ev_i0, ev_i1, ev_i2, ev_l0, ev_l1, ev_l2, dats, List.zip_cons_cons, List.zip_nil_right, List.zip_nil_left, List.reverse_singleton, List.reverse_cons, List.reverse_nil, wYes, List.getElem?_cons_zero, List.getElem?_cons_succ, List.set_cons_zero, List.set_cons_succ, List.map_cons, List.map_nil, List.cons_append, List.nil_append, List.append_nil, List.replicate, List.length_cons, List.length_nil, Nat.reduceAdd, Nat.reduceSub, Option.some.injEq, List.append_eq, Nat.zero_add, exists_eq', exists_eq_left', Sl.mu.injEq, Mu.l.injEq, Sl.sh.injEq, W.p.injEq, true_and, and_true, or_true, true_or, ite_true, ite_false, if_true, if_false, Bool.false_eq_true, decide_eq_true_eq]
    refine ⟨?_, small_line (by omega), small_line (by rw [app_len]; omega), hC _ ⟨.sh (.d (.int (0 + i))), .sh (.d (.str (sgn ((first + step * (0 + (i : Int))) % 26)))), ?_⟩⟩
    · rw [List.length_map, List.length_map, List.length_range]
      omega
    · rw [Nat.zero_add, List.range_succ, List.map_append, List.map_append]
      rfl
  obtain ⟨s9, s10, rfl⟩ := hI
  rw [intsFrom_len, Nat.zero_add]
  have hnn := nms m.toNat (by omega)
  generalize hxs : (List.range m.toNat).map mk = xs at hnn
  have hl : xs.length = m.toNat := by rw [← hxs, List.length_map, List.length_range]
  simp only [wSeq2, wNext, wRet, wDrop, wIfS, wSet, wSetO, wSetN, wSetC, wSetIx, wSetI, wSetBx, wSetB, wAug, wApp, wAsg, wPar, wNilO, wConsO, wConsN, wL2N, putR, noUn, wVar, wC, wNil, wCons, wTup, wLst, wFz, wOp, wB, wAnd, wOr, wNot, wAndV, wOrV, wNotV, wIf, wNeg, wCB, wCL, wCallD, wRetB, wIsi, wSl, wNoPart, wPart, wRev, wFrz, wLend, wLendT, wLendL, muW, wFor, wSeq, wRange1, wRange2, wLc, wipeR, wgName, wgTup, wgCons, wgNil, startR, wJoin, wZip, wEnum, wEnumA, wDisp1, wDGet2, wBrk, wCnt, wIxOx, wIxO, wPopSet, wPopAt, wPopAtSet, popAtW, wExt, wSet2, xE, xT, xA, xCons, xTup, xLst, xFz, xOp, xB, xNot, xAnd, xOr, xSl, xCB, xCallD, xCallX, xCallL, xRet, xDrop, xIfS, xSet, xAsg, wRaise, wTry, wHandle, outPs, wXf, wXis, wChain, wCat, wLm, gCnt, ev_addI, ev_addS, ev_addT, ev_addL, ev_mulI, ev_I, ev_I0, ev_ltI, ev_ltS, ev_ge, ev_eqI, ev_eqS, ev_eqB, ev_p0, ev_p1, ev_p2, ev_lenL, ev_lenT, ev_lenS, ev_lenQ, ev_lenK, ev_tupL, ev_tupT, ev_lisL, ev_lisT, ev_intI, ev_intB, ev_max2, ev_min2, ev_repr, ev_reprB, ev_reprT, ev_eqRp, ev_slL, ev_slT, ev_slS, ev_seqL, ev_seqT, ev_seqS, ev_inL, ev_inT, ev_isB, ev_dO, ev_dat0, ev_dat1, ev_dat2, ev_dat3, ev_dat4, ev_dat5, ev_dat8, ev_i0, ev_i1, ev_i2, ev_l0, ev_l1, ev_l2, dats, List.zip_cons_cons, List.zip_nil_right, List.zip_nil_left, List.reverse_singleton, List.reverse_cons, List.reverse_nil, wYes, List.getElem?_cons_zero, List.getElem?_cons_succ, List.set_cons_zero, List.set_cons_succ, List.map_cons, List.map_nil, List.cons_append, List.nil_append, List.append_nil, List.replicate, List.length_cons, List.length_nil, Nat.reduceAdd, Nat.reduceSub, Option.some.injEq, List.append_eq, Nat.zero_add, exists_eq', exists_eq_left', Sl.mu.injEq, Mu.l.injEq, Sl.sh.injEq, W.p.injEq, true_and, and_true, or_true, true_or, ite_true, ite_false, if_true, if_false, Bool.false_eq_true, decide_eq_true_eq]
  refine r_take h0 (by omega) fun spot hp0 hp1 => ?_
  simp only [wSeq2, wNext, wRet, wDrop, wIfS, wSet, wSetO, wSetN, wSetC, wSetIx, wSetI, wSetBx, wSetB, wAug, wApp, wAsg, wPar, wNilO, wConsO, wConsN, wL2N, putR, noUn, wVar, wC, wNil, wCons, wTup, wLst, wFz, wOp, wB, wAnd, wOr, wNot, wAndV, wOrV, wNotV, wIf, wNeg, wCB, wCL, wCallD, wRetB, wIsi, wSl, wNoPart, wPart, wRev, wFrz, wLend, wLendT, wLendL, muW, wFor, wSeq, wRange1, wRange2, wLc, wipeR, wgName, wgTup, wgCons, wgNil, startR, wJoin, wZip, wEnum, wEnumA, wDisp1, wDGet2, wBrk, wCnt, wIxOx, wIxO, wPopSet, wPopAt, wPopAtSet, popAtW, wExt, wSet2, xE, xT, xA, xCons, xTup, xLst, xFz, xOp, xB, xNot, xAnd, xOr, xSl, xCB, xCallD, xCallX, xCallL, xRet, xDrop, xIfS, xSet, xAsg, wRaise, wTry, wHandle, outPs, wXf, wXis, wChain, wCat, wLm, gCnt, ev_addI, ev_addS, ev_addT, ev_addL, ev_mulI, ev_I, ev_I0, ev_ltI, ev_ltS, ev_ge, ev_eqI, ev_eqS, ev_eqB, ev_p0, ev_p1, ev_p2, ev_lenL, ev_lenT, ev_lenS, ev_lenQ, ev_lenK, ev_tupL, ev_tupT, ev_lisL, ev_lisT, ev_intI, ev_intB, ev_max2, ev_min2, ev_repr, ev_reprB, ev_reprT, ev_eqRp, ev_slL, ev_slT, ev_slS, ev_seqL, ev_seqT, ev_seqS, ev_inL, ev_inT, ev_isB, ev_dO, ev_dat0, ev_dat1, ev_dat2, ev_dat3, ev_dat4, ev_dat5, ev_dat8, ev_i0, ev_i1, ev_i2, ev_l0, ev_l1, ev_l2, dats, List.zip_cons_cons, List.zip_nil_right, List.zip_nil_left, List.reverse_singleton, List.reverse_cons, List.reverse_nil, wYes, List.getElem?_cons_zero, List.getElem?_cons_succ, List.set_cons_zero, List.set_cons_succ, List.map_cons, List.map_nil, List.cons_append, List.nil_append, List.append_nil, List.replicate, List.length_cons, List.length_nil, Nat.reduceAdd, Nat.reduceSub, Option.some.injEq, List.append_eq, Nat.zero_add, exists_eq', exists_eq_left', Sl.mu.injEq, Mu.l.injEq, Sl.sh.injEq, W.p.injEq, true_and, and_true, or_true, true_or, ite_true, ite_false, if_true, if_false, Bool.false_eq_true, decide_eq_true_eq]
  refine r_take (by decide) (by decide) fun y hy0 hy1 => ?_
  simp only [wSeq2, wNext, wRet, wDrop, wIfS, wSet, wSetO, wSetN, wSetC, wSetIx, wSetI, wSetBx, wSetB, wAug, wApp, wAsg, wPar, wNilO, wConsO, wConsN, wL2N, putR, noUn, wVar, wC, wNil, wCons, wTup, wLst, wFz, wOp, wB, wAnd, wOr, wNot, wAndV, wOrV, wNotV, wIf, wNeg, wCB, wCL, wCallD, wRetB, wIsi, wSl, wNoPart, wPart, wRev, wFrz, wLend, wLendT, wLendL, muW, wFor, wSeq, wRange1, wRange2, wLc, wipeR, wgName, wgTup, wgCons, wgNil, startR, wJoin, wZip, wEnum, wEnumA, wDisp1, wDGet2, wBrk, wCnt, wIxOx, wIxO, wPopSet, wPopAt, wPopAtSet, popAtW, wExt, wSet2, xE, xT, xA, xCons, xTup, xLst, xFz, xOp, xB, xNot, xAnd, xOr, xSl, xCB, xCallD, xCallX, xCallL, xRet, xDrop, xIfS, xSet, xAsg, wRaise, wTry, wHandle, outPs, wXf, wXis, wChain, wCat, wLm, gCnt, ev_addI, ev_addS, ev_addT, ev_addL, ev_mulI, ev_I, ev_I0, ev_ltI, ev_ltS, ev_ge, ev_eqI, ev_eqS, ev_eqB, ev_p0, ev_p1, ev_p2, ev_lenL, ev_lenT, ev_lenS, ev_lenQ, ev_lenK, ev_tupL, ev_tupT, ev_lisL, ev_lisT, ev_intI, ev_intB, ev_max2, ev_min2, ev_repr, ev_reprB, ev_reprT, ev_eqRp, ev_slL, ev_slT, ev_slS, ev_seqL, ev_seqT, ev_seqS, ev_inL, ev_inT, ev_isB, ev_dO, ev_dat0, ev_dat1, ev_dat2, ev_dat3, ev_dat4, ev_dat5, ev_dat8, ev_i0, ev_i1, ev_i2, ev_l0, ev_l1, ev_l2, dats, List.zip_cons_cons, List.zip_nil_right, List.zip_nil_left, List.reverse_singleton, List.reverse_cons, List.reverse_nil, wYes, List.getElem?_cons_zero, List.getElem?_cons_succ, List.set_cons_zero, List.set_cons_succ, List.map_cons, List.map_nil, List.cons_append, List.nil_append, List.append_nil, List.replicate, List.length_cons, List.length_nil, Nat.reduceAdd, Nat.reduceSub, Option.some.injEq, List.append_eq, Nat.zero_add, exists_eq', exists_eq_left', Sl.mu.injEq, Mu.l.injEq, Sl.sh.injEq, W.p.injEq, true_and, and_true, or_true, true_or, ite_true, ite_false, if_true, if_false, Bool.false_eq_true, decide_eq_true_eq]
  refine r_ixl hy0 hy1 fun d hd => ?_
  obtain ⟨word, rfl, hw, hwz⟩ := words_ok d (List.mem_of_getElem? hd)
  simp only [wSeq2, wNext, wRet, wDrop, wIfS, wSet, wSetO, wSetN, wSetC, wSetIx, wSetI, wSetBx, wSetB, wAug, wApp, wAsg, wPar, wNilO, wConsO, wConsN, wL2N, putR, noUn, wVar, wC, wNil, wCons, wTup, wLst, wFz, wOp, wB, wAnd, wOr, wNot, wAndV, wOrV, wNotV, wIf, wNeg, wCB, wCL, wCallD, wRetB, wIsi, wSl, wNoPart, wPart, wRev, wFrz, wLend, wLendT, wLendL, muW, wFor, wSeq, wRange1, wRange2, wLc, wipeR, wgName, wgTup, wgCons, wgNil, startR, wJoin, wZip, wEnum, wEnumA, wDisp1, wDGet2, wBrk, wCnt, wIxOx, wIxO, wPopSet, wPopAt, wPopAtSet, popAtW, wExt, wSet2, xE, xT, xA, xCons, xTup, xLst, xFz, xOp, xB, xNot, xAnd, xOr, xSl, xCB, xCallD, xCallX, xCallL, xRet, xDrop, xIfS, xSet, xAsg, wRaise, wTry, wHandle, outPs, wXf, wXis, wChain, wCat, wLm, gCnt, ev_addI, ev_addS, ev_addT, ev_addL, ev_mulI, ev_I, ev_I0, ev_ltI, ev_ltS, ev_ge, ev_eqI, ev_eqS, ev_eqB, ev_p0, ev_p1, ev_p2, ev_lenL, ev_lenT, ev_lenS, ev_lenQ, ev_lenK, ev_tupL, ev_tupT, ev_lisL, ev_lisT, ev_intI, ev_intB, ev_max2, ev_min2, ev_repr, ev_reprB, ev_reprT, ev_eqRp, ev_slL, ev_slT, ev_slS, ev_seqL, ev_seqT, ev_seqS, ev_inL, ev_inT, ev_isB, ev_dO, ev_dat0, ev_dat1, ev_dat2, ev_dat3, ev_dat4, ev_dat5, ev_dat8, ev_i0, ev_i1, ev_i2, ev_l0, ev_l1, ev_l2, dats, List.zip_cons_cons, List.zip_nil_right, List.zip_nil_left, List.reverse_singleton, List.reverse_cons, List.reverse_nil, wYes, List.getElem?_cons_zero, List.getElem?_cons_succ, List.set_cons_zero, List.set_cons_succ, List.map_cons, List.map_nil, List.cons_append, List.nil_append, List.append_nil, List.replicate, List.length_cons, List.length_nil, Nat.reduceAdd, Nat.reduceSub, Option.some.injEq, List.append_eq, Nat.zero_add, exists_eq', exists_eq_left', Sl.mu.injEq, Mu.l.injEq, Sl.sh.injEq, W.p.injEq, true_and, and_true, or_true, true_or, ite_true, ite_false, if_true, if_false, Bool.false_eq_true, decide_eq_true_eq]
  refine r_take (by decide) (by decide) fun u hu0 hu1 => ?_
  simp only [wSeq2, wNext, wRet, wDrop, wIfS, wSet, wSetO, wSetN, wSetC, wSetIx, wSetI, wSetBx, wSetB, wAug, wApp, wAsg, wPar, wNilO, wConsO, wConsN, wL2N, putR, noUn, wVar, wC, wNil, wCons, wTup, wLst, wFz, wOp, wB, wAnd, wOr, wNot, wAndV, wOrV, wNotV, wIf, wNeg, wCB, wCL, wCallD, wRetB, wIsi, wSl, wNoPart, wPart, wRev, wFrz, wLend, wLendT, wLendL, muW, wFor, wSeq, wRange1, wRange2, wLc, wipeR, wgName, wgTup, wgCons, wgNil, startR, wJoin, wZip, wEnum, wEnumA, wDisp1, wDGet2, wBrk, wCnt, wIxOx, wIxO, wPopSet, wPopAt, wPopAtSet, popAtW, wExt, wSet2, xE, xT, xA, xCons, xTup, xLst, xFz, xOp, xB, xNot, xAnd, xOr, xSl, xCB, xCallD, xCallX, xCallL, xRet, xDrop, xIfS, xSet, xAsg, wRaise, wTry, wHandle, outPs, wXf, wXis, wChain, wCat, wLm, gCnt, ev_addI, ev_addS, ev_addT, ev_addL, ev_mulI, ev_I, ev_I0, ev_ltI, ev_ltS, ev_ge, ev_eqI, ev_eqS, ev_eqB, ev_p0, ev_p1, ev_p2, ev_lenL, ev_lenT, ev_lenS, ev_lenQ, ev_lenK, ev_tupL, ev_tupT, ev_lisL, ev_lisT, ev_intI, ev_intB, ev_max2, ev_min2, ev_repr, ev_reprB, ev_reprT, ev_eqRp, ev_slL, ev_slT, ev_slS, ev_seqL, ev_seqT, ev_seqS, ev_inL, ev_inT, ev_isB, ev_dO, ev_dat0, ev_dat1, ev_dat2, ev_dat3, ev_dat4, ev_dat5, ev_dat8, ev_i0, ev_i1, ev_i2, ev_l0, ev_l1, ev_l2, dats, List.zip_cons_cons, List.zip_nil_right, List.zip_nil_left, List.reverse_singleton, List.reverse_cons, List.reverse_nil, wYes, List.getElem?_cons_zero, List.getElem?_cons_succ, List.set_cons_zero, List.set_cons_succ, List.map_cons, List.map_nil, List.cons_append, List.nil_append, List.append_nil, List.replicate, List.length_cons, List.length_nil, Nat.reduceAdd, Nat.reduceSub, Option.some.injEq, List.append_eq, Nat.zero_add, exists_eq', exists_eq_left', Sl.mu.injEq, Mu.l.injEq, Sl.sh.injEq, W.p.injEq, true_and, and_true, or_true, true_or, ite_true, ite_false, if_true, if_false, Bool.false_eq_true, decide_eq_true_eq]
  have hd0 : ∀ w : Str, (PyData.str w).depth = 0 := fun w => by simp [PyData.depth]
  split
  · refine ⟨by rw [hd0]; omega, ?_⟩
    rw [any_str]
    split
    · rename_i hc
      have hnot : word ∉ xs := fun z => by
        have : (xs.any fun y => y == word) = true := List.any_eq_true.mpr ⟨word, z, by simp⟩
        rw [this] at hc
        exact absurd hc (by decide)
      obtain ⟨j, hj⟩ : ∃ j, ixN xs.length spot = some j := ⟨spot.toNat, by unfold ixN; rw [if_pos hp0, if_pos (by omega)]⟩
      rw [List.length_map, hj]
      simp only
      rw [← List.map_set]
      refine q _ (by rw [List.length_set]; omega) ⟨fun x hx => ?_, set_nodup hnot hnn.nd j, fun x hx => ?_⟩
      · rcases List.mem_or_eq_of_mem_set hx with z | z
        · exact hnn.ok x z
        · exact z ▸ hw
      · rcases List.mem_or_eq_of_mem_set hx with z | z
        · exact hnn.nz x z
        · exact z ▸ hwz
    · exact q xs (by omega) hnn
  · exact q xs (by omega) hnn
end Pd
end

section
set_option Elab.async false
set_option linter.all false
set_option maxRecDepth 100000
set_option autoImplicit false
set_option maxHeartbeats 4000000
namespace Pd
open PySem PySem.Spec PyProof.Rows L2
/-! ### alike -/
mutual
def plainD : D → Bool
  | .dict _ => false
  | .list ds => plainA ds
  | .tuple ds => plainA ds
  | _ => true
def plainA : List D → Bool
  | [] => true
  | d :: ds => plainD d && plainA ds
end
mutual
theorem eqv_self : ∀ d : D, plainD d = true → PyData.eqv d d = true
  | .none, _ => by rw [PyData.eqv]
  | .bool b, _ => by rw [PyData.eqv]; simp
  | .int i, _ => by rw [PyData.eqv]; simp
  | .str x, _ => by rw [PyData.eqv]; simp
  | .list ds, h => by rw [PyData.eqv]; exact eqvA_self ds (by simpa [plainD] using h)
  | .tuple ds, h => by rw [PyData.eqv]; exact eqvA_self ds (by simpa [plainD] using h)
  | .dict _, h => by simp [plainD] at h
theorem eqvA_self : ∀ ds : List D, plainA ds = true → PyData.eqvAll ds ds = true
  | [], _ => by rw [PyData.eqvAll]
  | d :: ds, h => by
    rw [plainA, Bool.and_eq_true] at h
    rw [PyData.eqvAll, eqv_self d h.1, eqvA_self ds h.2]
    rfl
end
def F_law_alike (n : Nat) : FW := fun ws Φ => ∃ x, ws = [.d x, .d x] ∧ plainD x = true ∧ x.depth ≤ n ∧ x.depth ≤ 60 ∧ Φ (.d (.bool true))
theorem l_law_alike (n : Nat) (ws : List W) (Φ : W → Prop) (h : F_law_alike n ws Φ) : ws.length = 2 := by
  obtain ⟨a, rfl, _⟩ := h
  rfl
theorem mem_depth : ∀ {ds : List D} {d : D}, d ∈ ds → d.depth ≤ PyData.depthAll ds
  | [], _, h => by cases h
  | x :: ds, d, h => by
    rw [PyData.depthAll]
    rcases List.mem_cons.mp h with rfl | h
    · exact Nat.le_max_left _ _
    · exact Nat.le_trans (mem_depth h) (Nat.le_max_right _ _)
theorem mem_plain : ∀ {ds : List D} {d : D}, plainA ds = true → d ∈ ds → plainD d = true
  | [], _, _, h => by cases h
  | x :: ds, d, hp, h => by
    rw [plainA, Bool.and_eq_true] at hp
    rcases List.mem_cons.mp h with rfl | h
    · exact hp.1
    · exact mem_plain hp.2 h
theorem zip_self : ∀ {ds : List D} {d : D}, d ∈ zipD ds ds → ∃ x ∈ ds, d = pairD x x
  | [], _, h => by simp [zipD] at h
  | x :: ds, d, h => by
    simp only [zipD, List.mem_cons] at h
    rcases h with rfl | h
    · exact ⟨x, List.mem_cons_self, rfl⟩
    · obtain ⟨y, hy, e⟩ := zip_self h
      exact ⟨y, List.mem_cons_of_mem _ hy, e⟩
theorem trues : ∀ l : List D, boolsD (l.map fun _ => PyData.bool true) = some (l.map fun _ => true)
  | [] => rfl
  | x :: l => by
    rw [List.map_cons]
    unfold boolsD
    rw [trues l]
    rfl
theorem all_trues : ∀ l : List D, (l.map fun _ => true).all _root_.id = true
  | [] => rfl
  | x :: l => by
    rw [List.map_cons, List.all_cons, all_trues l]
    rfl
theorem m_law_alike0 (ws : List W) (Φ : W → Prop) (F : FW) (n : Nat) (hF : n = 0 ∨ F = F_law_alike (n - 1)) (h : F_law_alike n ws Φ) : w_law_alike F (startR n_law_alike ws) ⟨fun _ => Φ (.d .none), Φ, fun _ => False, fun _ => False, fun _ _ => False⟩ := by
  obtain ⟨x, rfl, hp, hd, hd60, q⟩ := h
  have seq : ∀ (ds : List D) (c : D), plainA ds = true → c.depth = PyData.depthAll ds + 1 → c.depth ≤ n → c.depth ≤ 60 → (zl : ∀ Ψ : List D → Prop, Ψ (zipD ds ds) → wZip (wCons (wVar 0) (wCons (wVar 1) wNil)) [.sh (.d c), .sh (.d c), .un, .un] Ψ) →
      compW (wgTup 2 (wgCons (wgName 2) (wgCons (wgName 3) wgNil))) wYes (wCallD F (wCons (wVar 2) (wCons (wVar 3) wNil))) (zipD ds ds) [.sh (.d c), .sh (.d c), .un, .un] [] fun es => oAnyAll (fun bs => bs.all _root_.id) [.d (.list es)] Φ := by
    intro ds c hp hc h1 h2 zl
    refine compW_map (fun _ => .bool true) (fun d hd T hT => ?_) ?_
    · obtain ⟨y, hy, rfl⟩ := zip_self hd
      have hn : F = F_law_alike (n - 1) := hF.resolve_left (by omega)
      have hy2 := mem_depth hy
      simp only [pairD, wSeq2, wNext, wRet, wDrop, wIfS, wSet, wSetO, wSetN, wSetC, wSetIx, wSetI, wSetBx, wSetB, wAug, wApp, wAsg, wPar, wNilO, wConsO, wConsN, wL2N, putR, noUn, wVar, wC, wNil, wCons, wTup, wLst, wFz, wOp, wB, wAnd, wOr, wNot, wAndV, wOrV, wNotV, wIf, wNeg, wCB, wCL, wCallD, wRetB, wIsi, wSl, wNoPart, wPart, wRev, wFrz, wLend, wLendT, wLendL, muW, wFor, wSeq, wRange1, wRange2, wLc, wipeR, wgName, wgTup, wgCons, wgNil, startR, wJoin, wZip, wEnum, wEnumA, wDisp1, wDGet2, wBrk, wCnt, wIxOx, wIxO, wPopSet, wPopAt, wPopAtSet, popAtW, wExt, wSet2, xE, xT, xA, xCons, xTup, xLst, xFz, xOp, xB, xNot, xAnd, xOr, xSl, xCB, xCallD, xCallX, xCallL, xRet, xDrop, xIfS, xSet, xAsg, wRaise, wTry, wHandle, outPs, wXf, wXis, wChain, wCat, wLm, gCnt, ev_addI, ev_addS, ev_addT, ev_addL, ev_mulI, ev_I, ev_I0, ev_ltI, ev_ltS, ev_ge, ev_eqI, ev_eqS, ev_eqB, ev_p0, ev_p1, ev_p2, ev_lenL, ev_lenT, ev_lenS, ev_lenQ, ev_lenK, ev_tupL, ev_tupT, ev_lisL, ev_lisT, ev_intI, ev_intB, ev_max2, ev_min2, ev_repr, ev_reprB, ev_reprT, ev_eqRp, ev_slL, ev_slT, ev_slS, ev_seqL, ev_seqT, ev_seqS, ev_inL, ev_inT, ev_isB, ev_dO, ev_dat0, ev_dat1, ev_dat2, ev_dat3, ev_dat4, ev_dat5, ev_dat8, ev_i0, ev_i1, ev_i2, ev_l0, ev_l1, ev_l2, dats, List.zip_cons_cons, List.zip_nil_right, List.zip_nil_left, List.reverse_singleton, List.reverse_cons, List.reverse_nil, wYes, List.getElem?_cons_zero, List.getElem?_cons_succ, List.set_cons_zero, List.set_cons_succ, List.map_cons, List.map_nil, List.cons_append, List.nil_append, List.append_nil, List.replicate, List.length_cons, List.length_nil, Nat.reduceAdd, Nat.reduceSub, Option.some.injEq, List.append_eq, Nat.zero_add, exists_eq', exists_eq_left', Sl.mu.injEq, Mu.l.injEq, Sl.sh.injEq, W.p.injEq, true_and, and_true, or_true, true_or, ite_true, ite_false, if_true, if_false, Bool.false_eq_true, decide_eq_true_eq, hn]
      exact ⟨y, rfl, mem_plain hp hy, by omega, by omega, hT⟩
    · rw [List.nil_append]
      unfold oAnyAll
      simp only [trues, all_trues]
      exact q
  cases x with
  | list ds =>
    rw [PyData.depth] at hd hd60
    simp only [w_law_alike, n_law_alike, wSeq2, wNext, wRet, wDrop, wIfS, wSet, wSetO, wSetN, wSetC, wSetIx, wSetI, wSetBx, wSetB, wAug, wApp, wAsg, wPar, wNilO, wConsO, wConsN, wL2N, putR, noUn, wVar, wC, wNil, wCons, wTup, wLst, wFz, wOp, wB, wAnd, wOr, wNot, wAndV, wOrV, wNotV, wIf, wNeg, wCB, wCL, wCallD, wRetB, wIsi, wSl, wNoPart, wPart, wRev, wFrz, wLend, wLendT, wLendL, muW, wFor, wSeq, wRange1, wRange2, wLc, wipeR, wgName, wgTup, wgCons, wgNil, startR, wJoin, wZip, wEnum, wEnumA, wDisp1, wDGet2, wBrk, wCnt, wIxOx, wIxO, wPopSet, wPopAt, wPopAtSet, popAtW, wExt, wSet2, xE, xT, xA, xCons, xTup, xLst, xFz, xOp, xB, xNot, xAnd, xOr, xSl, xCB, xCallD, xCallX, xCallL, xRet, xDrop, xIfS, xSet, xAsg, wRaise, wTry, wHandle, outPs, wXf, wXis, wChain, wCat, wLm, gCnt, ev_addI, ev_addS, ev_addT, ev_addL, ev_mulI, ev_I, ev_I0, ev_ltI, ev_ltS, ev_ge, ev_eqI, ev_eqS, ev_eqB, ev_p0, ev_p1, ev_p2, ev_lenL, ev_lenT, ev_lenS, ev_lenQ, ev_lenK, ev_tupL, ev_tupT, ev_lisL, ev_lisT, ev_intI, ev_intB, ev_max2, ev_min2, ev_repr, ev_reprB, ev_reprT, ev_eqRp, ev_slL, ev_slT, ev_slS, ev_seqL, ev_seqT, ev_seqS, ev_inL, ev_inT, ev_isB, ev_dO, ev_dat0, ev_dat1, ev_dat2, ev_dat3, ev_dat4, ev_dat5, ev_dat8, ev_i0, ev_i1, ev_i2, ev_l0, ev_l1, ev_l2, dats, List.zip_cons_cons, List.zip_nil_right, List.zip_nil_left, List.reverse_singleton, List.reverse_cons, List.reverse_nil, wYes, List.getElem?_cons_zero, List.getElem?_cons_succ, List.set_cons_zero, List.set_cons_succ, List.map_cons, List.map_nil, List.cons_append, List.nil_append, List.append_nil, List.replicate, List.length_cons, List.length_nil, Nat.reduceAdd, Nat.reduceSub, Option.some.injEq, List.append_eq, Nat.zero_add, exists_eq', exists_eq_left', Sl.mu.injEq, Mu.l.injEq, Sl.sh.injEq, W.p.injEq, true_and, and_true, or_true, true_or, ite_true, ite_false, if_true, if_false, Bool.false_eq_true, decide_eq_true_eq, isD, List.any_cons, List.any_nil, Bool.or_false, Bool.false_or, Bool.or_true, bne_self_eq_false, beq_self_eq_true, Bool.not_true]
    refine seq ds (.list ds) (by simpa [plainD] using hp) (by rw [PyData.depth]) (by rw [PyData.depth]; exact hd) (by rw [PyData.depth]; exact hd60) fun Ψ h => ?_
    simp only [wSeq2, wNext, wRet, wDrop, wIfS, wSet, wSetO, wSetN, wSetC, wSetIx, wSetI, wSetBx, wSetB, wAug, wApp, wAsg, wPar, wNilO, wConsO, wConsN, wL2N, putR, noUn, wVar, wC, wNil, wCons, wTup, wLst, wFz, wOp, wB, wAnd, wOr, wNot, wAndV, wOrV, wNotV, wIf, wNeg, wCB, wCL, wCallD, wRetB, wIsi, wSl, wNoPart, wPart, wRev, wFrz, wLend, wLendT, wLendL, muW, wFor, wSeq, wRange1, wRange2, wLc, wipeR, wgName, wgTup, wgCons, wgNil, startR, wJoin, wZip, wEnum, wEnumA, wDisp1, wDGet2, wBrk, wCnt, wIxOx, wIxO, wPopSet, wPopAt, wPopAtSet, popAtW, wExt, wSet2, xE, xT, xA, xCons, xTup, xLst, xFz, xOp, xB, xNot, xAnd, xOr, xSl, xCB, xCallD, xCallX, xCallL, xRet, xDrop, xIfS, xSet, xAsg, wRaise, wTry, wHandle, outPs, wXf, wXis, wChain, wCat, wLm, gCnt, ev_addI, ev_addS, ev_addT, ev_addL, ev_mulI, ev_I, ev_I0, ev_ltI, ev_ltS, ev_ge, ev_eqI, ev_eqS, ev_eqB, ev_p0, ev_p1, ev_p2, ev_lenL, ev_lenT, ev_lenS, ev_lenQ, ev_lenK, ev_tupL, ev_tupT, ev_lisL, ev_lisT, ev_intI, ev_intB, ev_max2, ev_min2, ev_repr, ev_reprB, ev_reprT, ev_eqRp, ev_slL, ev_slT, ev_slS, ev_seqL, ev_seqT, ev_seqS, ev_inL, ev_inT, ev_isB, ev_dO, ev_dat0, ev_dat1, ev_dat2, ev_dat3, ev_dat4, ev_dat5, ev_dat8, ev_i0, ev_i1, ev_i2, ev_l0, ev_l1, ev_l2, dats, List.zip_cons_cons, List.zip_nil_right, List.zip_nil_left, List.reverse_singleton, List.reverse_cons, List.reverse_nil, wYes, List.getElem?_cons_zero, List.getElem?_cons_succ, List.set_cons_zero, List.set_cons_succ, List.map_cons, List.map_nil, List.cons_append, List.nil_append, List.append_nil, List.replicate, List.length_cons, List.length_nil, Nat.reduceAdd, Nat.reduceSub, Option.some.injEq, List.append_eq, Nat.zero_add, exists_eq', exists_eq_left', Sl.mu.injEq, Mu.l.injEq, Sl.sh.injEq, W.p.injEq, true_and, and_true, or_true, true_or, ite_true, ite_false, if_true, if_false, Bool.false_eq_true, decide_eq_true_eq]
    exact h
  | tuple ds =>
    rw [PyData.depth] at hd hd60
    simp only [w_law_alike, n_law_alike, wSeq2, wNext, wRet, wDrop, wIfS, wSet, wSetO, wSetN, wSetC, wSetIx, wSetI, wSetBx, wSetB, wAug, wApp, wAsg, wPar, wNilO, wConsO, wConsN, wL2N, putR, noUn, wVar, wC, wNil, wCons, wTup, wLst, wFz, wOp, wB, wAnd, wOr, wNot, wAndV, wOrV, wNotV, wIf, wNeg, wCB, wCL, wCallD, wRetB, wIsi, wSl, wNoPart, wPart, wRev, wFrz, wLend, wLendT, wLendL, muW, wFor, wSeq, wRange1, wRange2, wLc, wipeR, wgName, wgTup, wgCons, wgNil, startR, wJoin, wZip, wEnum, wEnumA, wDisp1, wDGet2, wBrk, wCnt, wIxOx, wIxO, wPopSet, wPopAt, wPopAtSet, popAtW, wExt, wSet2, xE, xT, xA, xCons, xTup, xLst, xFz, xOp, xB, xNot, xAnd, xOr, xSl, xCB, xCallD, xCallX, xCallL, xRet, xDrop, xIfS, xSet, xAsg, wRaise, wTry, wHandle, outPs, wXf, wXis, wChain, wCat, wLm, gCnt, ev_addI, ev_addS, ev_addT, ev_addL, ev_mulI, ev_I, ev_I0, ev_ltI, ev_ltS, ev_ge, ev_eqI, ev_eqS, ev_eqB, ev_p0, ev_p1, ev_p2, ev_lenL, ev_lenT, ev_lenS, ev_lenQ, ev_lenK, ev_tupL, ev_tupT, ev_lisL, ev_lisT, ev_intI, ev_intB, ev_max2, ev_min2, ev_repr, ev_reprB, ev_reprT, ev_eqRp, ev_slL, ev_slT, ev_slS, ev_seqL, ev_seqT, ev_seqS, ev_inL, ev_inT, ev_isB, ev_dO, ev_dat0, ev_dat1, ev_dat2, ev_dat3, ev_dat4, ev_dat5, ev_dat8, ev_i0, ev_i1, ev_i2, ev_l0, ev_l1, ev_l2, dats, List.zip_cons_cons, List.zip_nil_right, List.zip_nil_left, List.reverse_singleton, List.reverse_cons, List.reverse_nil, wYes, List.getElem?_cons_zero, List.getElem?_cons_succ, List.set_cons_zero, List.set_cons_succ, List.map_cons, List.map_nil, List.cons_append, List.nil_append, List.append_nil, List.replicate, List.length_cons, List.length_nil, Nat.reduceAdd, Nat.reduceSub, Option.some.injEq, List.append_eq, Nat.zero_add, exists_eq', exists_eq_left', Sl.mu.injEq, Mu.l.injEq, Sl.sh.injEq, W.p.injEq, true_and, and_true, or_true, true_or, ite_true, ite_false, if_true, if_false, Bool.false_eq_true, decide_eq_true_eq, isD, List.any_cons, List.any_nil, Bool.or_false, Bool.false_or, Bool.or_true, bne_self_eq_false, beq_self_eq_true, Bool.not_true]
    refine seq ds (.tuple ds) (by simpa [plainD] using hp) (by rw [PyData.depth]) (by rw [PyData.depth]; exact hd) (by rw [PyData.depth]; exact hd60) fun Ψ h => ?_
    simp only [wSeq2, wNext, wRet, wDrop, wIfS, wSet, wSetO, wSetN, wSetC, wSetIx, wSetI, wSetBx, wSetB, wAug, wApp, wAsg, wPar, wNilO, wConsO, wConsN, wL2N, putR, noUn, wVar, wC, wNil, wCons, wTup, wLst, wFz, wOp, wB, wAnd, wOr, wNot, wAndV, wOrV, wNotV, wIf, wNeg, wCB, wCL, wCallD, wRetB, wIsi, wSl, wNoPart, wPart, wRev, wFrz, wLend, wLendT, wLendL, muW, wFor, wSeq, wRange1, wRange2, wLc, wipeR, wgName, wgTup, wgCons, wgNil, startR, wJoin, wZip, wEnum, wEnumA, wDisp1, wDGet2, wBrk, wCnt, wIxOx, wIxO, wPopSet, wPopAt, wPopAtSet, popAtW, wExt, wSet2, xE, xT, xA, xCons, xTup, xLst, xFz, xOp, xB, xNot, xAnd, xOr, xSl, xCB, xCallD, xCallX, xCallL, xRet, xDrop, xIfS, xSet, xAsg, wRaise, wTry, wHandle, outPs, wXf, wXis, wChain, wCat, wLm, gCnt, ev_addI, ev_addS, ev_addT, ev_addL, ev_mulI, ev_I, ev_I0, ev_ltI, ev_ltS, ev_ge, ev_eqI, ev_eqS, ev_eqB, ev_p0, ev_p1, ev_p2, ev_lenL, ev_lenT, ev_lenS, ev_lenQ, ev_lenK, ev_tupL, ev_tupT, ev_lisL, ev_lisT, ev_intI, ev_intB, ev_max2, ev_min2, ev_repr, ev_reprB, ev_reprT, ev_eqRp, ev_slL, ev_slT, ev_slS, ev_seqL, ev_seqT, ev_seqS, ev_inL, ev_inT, ev_isB, ev_dO, ev_dat0, ev_dat1, ev_dat2, ev_dat3, ev_dat4, ev_dat5, ev_dat8, ev_i0, ev_i1, ev_i2, ev_l0, ev_l1, ev_l2, dats, List.zip_cons_cons, List.zip_nil_right, List.zip_nil_left, List.reverse_singleton, List.reverse_cons, List.reverse_nil, wYes, List.getElem?_cons_zero, List.getElem?_cons_succ, List.set_cons_zero, List.set_cons_succ, List.map_cons, List.map_nil, List.cons_append, List.nil_append, List.append_nil, List.replicate, List.length_cons, List.length_nil, Nat.reduceAdd, Nat.reduceSub, Option.some.injEq, List.append_eq, Nat.zero_add, exists_eq', exists_eq_left', Sl.mu.injEq, Mu.l.injEq, Sl.sh.injEq, W.p.injEq, true_and, and_true, or_true, true_or, ite_true, ite_false, if_true, if_false, Bool.false_eq_true, decide_eq_true_eq]
    exact h
  | dict _ => simp [plainD] at hp
  | _ =>
    simp only [w_law_alike, n_law_alike, wSeq2, wNext, wRet, wDrop, wIfS, wSet, wSetO, wSetN, wSetC, wSetIx, wSetI, wSetBx, wSetB, wAug, wApp, wAsg, wPar, wNilO, wConsO, wConsN, wL2N, putR, noUn, wVar, wC, wNil, wCons, wTup, wLst, wFz, wOp, wB, wAnd, wOr, wNot, wAndV, wOrV, wNotV, wIf, wNeg, wCB, wCL, wCallD, wRetB, wIsi, wSl, wNoPart, wPart, wRev, wFrz, wLend, wLendT, wLendL, muW, wFor, wSeq, wRange1, wRange2, wLc, wipeR, wgName, wgTup, wgCons, wgNil, startR, wJoin, wZip, wEnum, wEnumA, wDisp1, wDGet2, wBrk, wCnt, wIxOx, wIxO, wPopSet, wPopAt, wPopAtSet, popAtW, wExt, wSet2, xE, xT, xA, xCons, xTup, xLst, xFz, xOp, xB, xNot, xAnd, xOr, xSl, xCB, xCallD, xCallX, xCallL, xRet, xDrop, xIfS, xSet, xAsg, wRaise, wTry, wHandle, outPs, wXf, wXis, wChain, wCat, wLm, gCnt, ev_addI, ev_addS, ev_addT, ev_addL, ev_mulI, ev_I, ev_I0, ev_ltI, ev_ltS, ev_ge, ev_eqI, ev_eqS, ev_eqB, ev_p0, ev_p1, ev_p2, ev_lenL, ev_lenT, ev_lenS, ev_lenQ, ev_lenK, ev_tupL, ev_tupT, ev_lisL, ev_lisT, ev_intI, ev_intB, ev_max2, ev_min2, ev_repr, ev_reprB, ev_reprT, ev_eqRp, ev_slL, ev_slT, ev_slS, ev_seqL, ev_seqT, ev_seqS, ev_inL, ev_inT, ev_isB, ev_dO, ev_dat0, ev_dat1, ev_dat2, ev_dat3, ev_dat4, ev_dat5, ev_dat8, ev_i0, ev_i1, ev_i2, ev_l0, ev_l1, ev_l2, dats, List.zip_cons_cons, List.zip_nil_right, List.zip_nil_left, List.reverse_singleton, List.reverse_cons, List.reverse_nil, wYes, List.getElem?_cons_zero, List.getElem?_cons_succ, List.set_cons_zero, List.set_cons_succ, List.map_cons, List.map_nil, List.cons_append, List.nil_append, List.append_nil, List.replicate, List.length_cons, List.length_nil, Nat.reduceAdd, Nat.reduceSub, Option.some.injEq, List.append_eq, Nat.zero_add, exists_eq', exists_eq_left', Sl.mu.injEq, Mu.l.injEq, Sl.sh.injEq, W.p.injEq, true_and, and_true, or_true, true_or, ite_true, ite_false, if_true, if_false, Bool.false_eq_true, decide_eq_true_eq, isD, List.any_cons, List.any_nil, Bool.or_false, Bool.false_or, Bool.or_true, bne_self_eq_false, beq_self_eq_true, Bool.not_true, Bool.not_false]
    first
      | exact q
      | (rw [ev_eq]
         refine ⟨by omega, ?_⟩
         rw [eqv_self _ hp]
         exact q)
theorem cl_false {P : Program} {w : World} {K : PySem.W.Frag} {mg : Str → Option Value} {base : Heap} {x : Str} {st : Stmt} {ps : List Str} (d : Df K mg x st ps) (k : Nat) : Cl P w K mg base k x ps.length (fun _ _ => False) := by
  obtain ⟨f, fd, h1, h2, h3⟩ := d.ex
  exact ⟨f, fd, ps, rfl, ⟨fun A outer s H args us vs Q _ _ _ _ _ ⟨_, _, _, _, _, _, _, q, _⟩ => q.elim⟩, h2, h1.kp, h3⟩
theorem alike_cl {P : Program} {w : World} {K : PySem.W.Frag} {mg : Str → Option Value} {base : Heap} {st : Stmt} (cl : ∀ {F F' : FW} {k : Nat}, Cl P w K mg base k "_law_alike" 2 F → (∀ ws Φ, F' ws Φ → w_law_alike F (startR n_law_alike ws) ⟨fun _ => Φ (.d .none), Φ, fun _ => False, fun _ => False, fun _ _ => False⟩) → (∀ ws Φ, F ws Φ → ws.length = 2) → Cl P w K mg base (k + 1) "_law_alike" 2 F')
    (d : Df K mg "_law_alike" st ["found", "due"]) : ∀ n, Cl P w K mg base (n + 1) "_law_alike" 2 (F_law_alike n)
  | 0 => cl (cl_false d 0) (fun ws Φ h => m_law_alike0 ws Φ _ 0 (.inl rfl) h) fun _ _ h => h.elim
  | n + 1 => cl (alike_cl cl d n) (fun ws Φ h => m_law_alike0 ws Φ _ (n + 1) (.inr rfl) h) (l_law_alike n)
end Pd
end

section
set_option Elab.async false
set_option linter.all false
set_option maxRecDepth 100000
set_option autoImplicit false
set_option maxHeartbeats 4000000
namespace Pd
open PySem PySem.Spec PyProof.Rows L2
def n_law_hall : List Str := ["box", "rooms", "doors", "names", "known", "many", "titles", "last", "k", "one", "at", "other", "title"]
def w_law_hall_t (F_law_take : FW) : WS :=
    (wSeq2 (wFor (wRange1 (wCons (wVar 5) wNil)) (wgName 8) (wSeq2 (wSet 9 (wOp oIx (wFz (wLst (wCons (wVar 7) (wCons (wOp oIx (wVar 3) (wCallD F_law_take (wCons (wVar 0) (wCons (wCB oLen (wCons (wVar 3) wNil)) wNil)))) wNil)))) (wCallD F_law_take (wCons (wVar 0) (wCons (wC (.d (.int 2))) wNil)))))
    (wSeq2 (wSet 10 (wLm gIdx (wVar 3) (wVar 9)))
    (wSeq2 (wSet 11 (wOp oIx (wVar 3) (wOp (oI (fun _ j => 0 < j) fun i j => i % j) (wOp oAdd (wOp oAdd (wVar 10) (wC (.d (.int 1)))) (wCallD F_law_take (wCons (wVar 0) (wCons (wOp (oI0 fun i j => i - j) (wCB oLen (wCons (wVar 3) wNil)) (wC (.d (.int 1)))) wNil)))) (wCB oLen (wCons (wVar 3) wNil)))))
    (wSeq2 (wApp 4 (wTup (wCons (wOp oIx (wVar 6) (wVar 8)) (wCons (wVar 9) (wCons (wVar 11) wNil)))))
    (wSet 7 (wVar 11)))))))
    (wRet (wTup (wCons (wCB oTuple (wCons (wVar 3) wNil)) (wCons (wLend 4 (wCB oTuple (wCons (wVar 4) wNil))) wNil)))))
def w_law_hall (F_law_take : FW) (F_law_names : FW) : WS :=
    (wSeq2 (wPar [3, 4] (wConsO (wCallD F_law_names (wCons (wVar 0) (wCons (wOp oAdd (wC (.d (.int 1))) (wCallD F_law_take (wCons (wVar 0) (wCons (wVar 1) wNil)))) wNil))) (wConsN (wL2N (wLst wNil)) wNilO)))
    (wSeq2 (wSet 5 (wOp oMul (wCallD F_law_take (wCons (wVar 0) (wCons (wOp oAdd (wVar 2) (wC (.d (.int 1)))) wNil))) (wCB oInt (wCons (wOp (oLt (fun i j => decide (j < i)) gtL) (wCB oLen (wCons (wVar 3) wNil)) (wC (.d (.int 1)))) wNil))))
    (wSeq2 (wPar [6, 7] (wConsO (wCallD F_law_names (wCons (wVar 0) (wCons (wCB oMax2 (wCons (wC (.d (.int 1))) (wCons (wVar 5) wNil))) wNil))) (wConsO (wOp oIx (wVar 3) (wC (.d (.int 0)))) wNilO)))
    (wSeq2 (wIfS (wB (wOp (oEq false) (wCallD F_law_take (wCons (wVar 0) (wCons (wC (.d (.int 6))) wNil))) (wC (.d (.int 0))))) (wSet 6 (wOp oAdd (wVar 3) (wFz (wLc (wSeq (wVar 6)) (wgName 12) (wB (wOp (oIn true) (wVar 12) (wVar 3))) (wVar 12) [12])))) wNext)
    (w_law_hall_t F_law_take)))))
end Pd
end

section
set_option Elab.async false
set_option linter.all false
set_option maxRecDepth 100000
set_option autoImplicit false
set_option maxHeartbeats 4000000
namespace Pd
open PySem PySem.Spec PyProof.Rows L2
/-! ### halls -/
abbrev Door := Str × Str × Str
def doorD (p : Door) : D := .tuple [.str p.1, .str p.2.1, .str p.2.2]
def hallD (names : List Str) (doors : List Door) : D := .tuple [.tuple (names.map PyData.str), .tuple (doors.map doorD)]
structure DoorOk (names : List Str) (p : Door) : Prop where
  ok : NameOk p.1
  one : p.2.1 ∈ names
  two : p.2.2 ∈ names
  ne : p.2.1 ≠ p.2.2
structure HallOk (R Dn : Nat) (names : List Str) (doors : List Door) : Prop where
  len : names.length ≤ R
  pos : 0 < names.length
  dlen : doors.length ≤ Dn
  nm : Names names
  drs : ∀ p ∈ doors, DoorOk names p
  nd : (doors.map (·.1)).Nodup
def F_law_hall : FW := fun ws Φ => ∃ (a : Addr) (R Dn : Nat), ws = [.p a, .d (.int R), .d (.int Dn)] ∧ 0 < R ∧ R ≤ 26 ∧ Dn ≤ 26 ∧ ∀ names doors, HallOk R Dn names doors → Φ (.d (hallD names doors))
theorem l_law_hall (ws : List W) (Φ : W → Prop) (h : F_law_hall ws Φ) : ws.length = 3 := by
  obtain ⟨a, m, n, rfl, _⟩ := h
  rfl
theorem r_names {a : Addr} {m : Int} {Φ : W → Prop} (h0 : 0 < m) (h1 : m ≤ 26) (q : ∀ xs : List Str, (xs.length : Int) = m → Names xs → Φ (.d (.list (xs.map PyData.str)))) : F_law_names [.p a, .d (.int m)] Φ := ⟨a, m, rfl, h0, h1, q⟩
theorem r_ixstr {xs : List Str} {i : Int} {Φ : W → Prop} (h0 : 0 ≤ i) (h1 : i < xs.length) (q : ∀ x ∈ xs, xs[i.toNat]? = some x → Φ (.d (.str x))) : oIx (.d (.list (xs.map PyData.str))) (.d (.int i)) Φ :=
  r_ixl h0 (by rw [List.length_map]; exact h1) fun d hd => by
    rw [List.getElem?_map] at hd
    cases e : xs[i.toNat]? with
    | none => rw [e] at hd; cases hd
    | some x =>
      rw [e] at hd
      cases hd
      exact q x (List.mem_of_getElem? e) e
theorem filter_len : ∀ {xs : List Str} {ys : List Str}, ys.Nodup → ys.length ≤ xs.length + (ys.filter fun y => !xs.any fun x => x == y).length
  | [], ys, _ => by
    have e : (ys.filter fun y => !([] : List Str).any fun x => x == y) = ys := List.filter_eq_self.mpr fun z _ => rfl
    rw [e]
    omega
  | x :: xs, ys, nd => by
    have ih := filter_len (xs := xs) (ys := ys.filter fun y => !(y == x)) (nd.sublist List.filter_sublist)
    have e : ((ys.filter fun y => !(y == x)).filter fun y => !xs.any fun x => x == y) = ys.filter fun y => !(x :: xs).any fun x => x == y := by
      rw [List.filter_filter]
      congr 1
      funext y
      rw [List.any_cons, Bool.not_or, Bool.and_comm]
      congr 1
      rw [Bool.eq_iff_iff]
      simp
      exact ⟨fun h z => h z.symm, fun h z => h z.symm⟩
    rw [e] at ih
    have l2 : ∀ {ys : List Str}, ys.Nodup → ys.length ≤ (ys.filter fun y => !(y == x)).length + 1 := fun {ys} => by
      intro nd
      induction ys with
      | nil => simp
      | cons y ys ih =>
        rw [List.nodup_cons] at nd
        by_cases hy : y = x
        · have hn : (ys.filter fun y => !(y == x)) = ys := List.filter_eq_self.mpr fun z hz => by
            have : z ≠ x := fun e => nd.1 (by rw [hy, ← e]; exact hz)
            simpa using this
          rw [List.filter_cons_of_neg (by simpa using hy), hn, List.length_cons]
          exact Nat.le_refl _
        · rw [List.filter_cons_of_pos (by simpa using hy), List.length_cons, List.length_cons]
          have := ih nd.2
          omega
    have := l2 nd
    rw [List.length_cons]
    omega
theorem r_idx {xs : List Str} {x : Str} {Φ : W → Prop} (hx : x ∈ xs) (q : ∀ j : Nat, xs[j]? = some x → (∀ m : Nat, m < j → xs[m]? ≠ some x) → Φ (.d (.int (j : Int)))) : gIdx (xs.map PyData.str) (.d (.str x)) Φ := by
  unfold gIdx
  simp only [strsD_map]
  cases e : xs.findIdx? (· == x) with
  | none =>
    rw [List.findIdx?_eq_none_iff] at e
    have := e x hx
    simp at this
  | some j =>
    obtain ⟨h1, h2, h3⟩ := List.findIdx?_eq_some_iff_getElem.mp e
    refine q j ?_ fun m hm z => ?_
    · rw [List.getElem?_eq_getElem h1]
      have : xs[j] = x := by simpa using h2
      rw [this]
    · have hmx : m < xs.length := by omega
      rw [List.getElem?_eq_getElem hmx] at z
      have h4 := h3 m hm
      have h5 : xs[m] = x := Option.some.inj z
      rw [h5] at h4
      simp at h4
theorem drs_noList : ∀ row : List Door, noListA (row.map doorD) = true
  | [] => rfl
  | p :: r => by
    rw [List.map_cons, noListA, drs_noList r]
    rfl
theorem m_hall_t {a : Addr} {r0 r1 : W} {many : Nat} {xs ts : List Str} {last : Str} {Dn : Nat} {R : Nat} {Φ : W → Prop} (nx : Names xs) (hx0 : 0 < xs.length) (hxR : xs.length ≤ R) (hR : R ≤ 26) (hD : Dn ≤ 26) (hm : many ≤ Dn) (h1 : many = 0 ∨ 1 < xs.length) (ht : many ≤ ts.length) (nt : ts.Nodup) (ot : ∀ t ∈ ts, NameOk t) (hl : last ∈ xs) (q : ∀ names doors, HallOk R Dn names doors → Φ (.d (hallD names doors))) :
    w_law_hall_t F_law_take [.sh (.p a), .sh r0, .sh r1, .sh (.d (.list (xs.map PyData.str))), .mu (.l []), .sh (.d (.int many)), .sh (.d (.list (ts.map PyData.str))), .sh (.d (.str last)), .un, .un, .un, .un, .un] ⟨fun _ => Φ (.d .none), Φ, fun _ => False, fun _ => False, fun _ _ => False⟩ := by
  simp only [w_law_hall_t, wSeq2, wNext, wRet, wDrop, wIfS, wSet, wSetO, wSetN, wSetC, wSetIx, wSetI, wSetBx, wSetB, wAug, wApp, wAsg, wPar, wNilO, wConsO, wConsN, wL2N, putR, noUn, wVar, wC, wNil, wCons, wTup, wLst, wFz, wOp, wB, wAnd, wOr, wNot, wAndV, wOrV, wNotV, wIf, wNeg, wCB, wCL, wCallD, wRetB, wIsi, wSl, wNoPart, wPart, wRev, wFrz, wLend, wLendT, wLendL, muW, wFor, wSeq, wRange1, wRange2, wLc, wipeR, wgName, wgTup, wgCons, wgNil, startR, wJoin, wZip, wEnum, wEnumA, wDisp1, wDGet2, wBrk, wCnt, wIxOx, wIxO, wPopSet, wPopAt, wPopAtSet, popAtW, wExt, wSet2, xE, xT, xA, xCons, xTup, xLst, xFz, xOp, xB, xNot, xAnd, xOr, xSl, xCB, xCallD, xCallX, xCallL, xRet, xDrop, xIfS, xSet, xAsg, wRaise, wTry, wHandle, outPs, wXf, wXis, wChain, wCat, wLm, gCnt, ev_addI, ev_addS, ev_addT, ev_addL, ev_mulI, ev_I, ev_I0, ev_ltI, ev_ltS, ev_ge, ev_eqI, ev_eqS, ev_eqB, ev_p0, ev_p1, ev_p2, ev_lenL, ev_lenT, ev_lenS, ev_lenQ, ev_lenK, ev_tupL, ev_tupT, ev_lisL, ev_lisT, ev_intI, ev_intB, ev_max2, ev_min2, ev_repr, ev_reprB, ev_reprT, ev_eqRp, ev_slL, ev_slT, ev_slS, ev_seqL, ev_seqT, ev_seqS, ev_inL, ev_inT, ev_isB, ev_dO, ev_dat0, ev_dat1, ev_dat2, ev_dat3, ev_dat4, ev_dat5, ev_dat8, ev_i0, ev_i1, ev_i2, ev_l0, ev_l1, ev_l2, dats, List.zip_cons_cons, List.zip_nil_right, List.zip_nil_left, List.reverse_singleton, List.reverse_cons, List.reverse_nil, wYes, List.getElem?_cons_zero, List.getElem?_cons_succ, List.set_cons_zero, List.set_cons_succ, List.map_cons, List.map_nil, List.cons_append, List.nil_append, List.append_nil, List.replicate, List.length_cons, List.length_nil, Nat.reduceAdd, Nat.reduceSub, Option.some.injEq, List.append_eq, Nat.zero_add, exists_eq', exists_eq_left', Sl.mu.injEq, Mu.l.injEq, Sl.sh.injEq, W.p.injEq, true_and, and_true, or_true, true_or, ite_true, ite_false, if_true, if_false, Bool.false_eq_true, decide_eq_true_eq]
  refine ⟨⟨by omega, by omega⟩, ?_⟩
  refine forW_inv (fun n ρ' => ∃ (ds : List Door) (last : Str) (s8 s9 s10 s11 : Sl), ds.length = n ∧ ds.map (·.1) = ts.take n ∧ (∀ p ∈ ds, DoorOk xs p) ∧ last ∈ xs ∧ ρ' = [.sh (.p a), .sh r0, .sh r1, .sh (.d (.list (xs.map PyData.str))), .mu (.l (ds.map doorD)), .sh (.d (.int many)), .sh (.d (.list (ts.map PyData.str))), .sh (.d (.str last)), s8, s9, s10, s11, .un]) 0 ⟨[], last, .un, .un, .un, .un, rfl, rfl, by simp, hl, rfl⟩ (fun i d ρ' C hd hI hC => ?_) fun ρ' hI => ?_
  · obtain ⟨ds, last, s8, s9, s10, s11, hn, he, hok, hl, rfl⟩ := hI
    obtain ⟨hi, rfl⟩ := intsFrom_get hd
    have hx1 : 1 < xs.length := by omega
    simp only [wSeq2, wNext, wRet, wDrop, wIfS, wSet, wSetO, wSetN, wSetC, wSetIx, wSetI, wSetBx, wSetB, wAug, wApp, wAsg, wPar, wNilO, wConsO, wConsN, wL2N, putR, noUn, wVar, wC, wNil, wCons, wTup, wLst, wFz, wOp, wB, wAnd, wOr, wNot, wAndV, wOrV, wNotV, wIf, wNeg, wCB, wCL, wCallD, wRetB, wIsi, wSl, wNoPart, wPart, wRev, wFrz, wLend, wLendT, wLendL, muW, wFor, wSeq, wRange1, wRange2, wLc, wipeR, wgName, wgTup, wgCons, wgNil, startR, wJoin, wZip, wEnum, wEnumA, wDisp1, wDGet2, wBrk, wCnt, wIxOx, wIxO, wPopSet, wPopAt, wPopAtSet, popAtW, wExt, wSet2, xE, xT, xA, xCons, xTup, xLst, xFz, xOp, xB, xNot, xAnd, xOr, xSl, xCB, xCallD, xCallX, xCallL, xRet, xDrop, xIfS, xSet, xAsg, wRaise, wTry, wHandle, outPs, wXf, wXis, wChain, wCat, wLm, gCnt, ev_addI, ev_addS, ev_addT, ev_addL, ev_mulI, ev_I, ev_I0, ev_ltI, ev_ltS, ev_ge, ev_eqI, ev_eqS, ev_eqB, ev_p0, ev_p1, ev_p2, ev_lenL, ev_lenT, ev_lenS, ev_lenQ, ev_lenK, ev_tupL, ev_tupT, ev_lisL, ev_lisT, ev_intI, ev_intB, ev_max2, ev_min2, ev_repr, ev_reprB, ev_reprT, ev_eqRp, ev_slL, ev_slT, ev_slS, ev_seqL, ev_seqT, ev_seqS, ev_inL, ev_inT, ev_isB, ev_dO, ev_dat0, ev_dat1, ev_dat2, ev_dat3, ev_dat4, ev_dat5, ev_dat8, ev_i0, ev_i1, ev_i2, ev_l0, ev_l1, ev_l2, dats, List.zip_cons_cons, List.zip_nil_right, List.zip_nil_left, List.reverse_singleton, List.reverse_cons, List.reverse_nil, wYes, List.getElem?_cons_zero, List.getElem?_cons_succ, List.set_cons_zero, List.set_cons_succ, List.map_cons, List.map_nil, List.cons_append, List.nil_append, List.append_nil, List.replicate, List.length_cons, List.length_nil, Nat.reduceAdd, Nat.reduceSub, Option.some.injEq, List.append_eq, Nat.zero_add, exists_eq', exists_eq_left', Sl.mu.injEq, Mu.l.injEq, Sl.sh.injEq, W.p.injEq, true_and, and_true, or_true, true_or, ite_true, ite_false, if_true, if_false, Bool.false_eq_true, decide_eq_true_eq, List.length_map]
    refine r_take (by omega) (by omega) fun r hr0 hr1 => ?_
    simp only [wSeq2, wNext, wRet, wDrop, wIfS, wSet, wSetO, wSetN, wSetC, wSetIx, wSetI, wSetBx, wSetB, wAug, wApp, wAsg, wPar, wNilO, wConsO, wConsN, wL2N, putR, noUn, wVar, wC, wNil, wCons, wTup, wLst, wFz, wOp, wB, wAnd, wOr, wNot, wAndV, wOrV, wNotV, wIf, wNeg, wCB, wCL, wCallD, wRetB, wIsi, wSl, wNoPart, wPart, wRev, wFrz, wLend, wLendT, wLendL, muW, wFor, wSeq, wRange1, wRange2, wLc, wipeR, wgName, wgTup, wgCons, wgNil, startR, wJoin, wZip, wEnum, wEnumA, wDisp1, wDGet2, wBrk, wCnt, wIxOx, wIxO, wPopSet, wPopAt, wPopAtSet, popAtW, wExt, wSet2, xE, xT, xA, xCons, xTup, xLst, xFz, xOp, xB, xNot, xAnd, xOr, xSl, xCB, xCallD, xCallX, xCallL, xRet, xDrop, xIfS, xSet, xAsg, wRaise, wTry, wHandle, outPs, wXf, wXis, wChain, wCat, wLm, gCnt, ev_addI, ev_addS, ev_addT, ev_addL, ev_mulI, ev_I, ev_I0, ev_ltI, ev_ltS, ev_ge, ev_eqI, ev_eqS, ev_eqB, ev_p0, ev_p1, ev_p2, ev_lenL, ev_lenT, ev_lenS, ev_lenQ, ev_lenK, ev_tupL, ev_tupT, ev_lisL, ev_lisT, ev_intI, ev_intB, ev_max2, ev_min2, ev_repr, ev_reprB, ev_reprT, ev_eqRp, ev_slL, ev_slT, ev_slS, ev_seqL, ev_seqT, ev_seqS, ev_inL, ev_inT, ev_isB, ev_dO, ev_dat0, ev_dat1, ev_dat2, ev_dat3, ev_dat4, ev_dat5, ev_dat8, ev_i0, ev_i1, ev_i2, ev_l0, ev_l1, ev_l2, dats, List.zip_cons_cons, List.zip_nil_right, List.zip_nil_left, List.reverse_singleton, List.reverse_cons, List.reverse_nil, wYes, List.getElem?_cons_zero, List.getElem?_cons_succ, List.set_cons_zero, List.set_cons_succ, List.map_cons, List.map_nil, List.cons_append, List.nil_append, List.append_nil, List.replicate, List.length_cons, List.length_nil, Nat.reduceAdd, Nat.reduceSub, Option.some.injEq, List.append_eq, Nat.zero_add, exists_eq', exists_eq_left', Sl.mu.injEq, Mu.l.injEq, Sl.sh.injEq, W.p.injEq, true_and, and_true, or_true, true_or, ite_true, ite_false, if_true, if_false, Bool.false_eq_true, decide_eq_true_eq]
    refine r_ixstr hr0 hr1 fun y hy _ => ?_
    simp only [wSeq2, wNext, wRet, wDrop, wIfS, wSet, wSetO, wSetN, wSetC, wSetIx, wSetI, wSetBx, wSetB, wAug, wApp, wAsg, wPar, wNilO, wConsO, wConsN, wL2N, putR, noUn, wVar, wC, wNil, wCons, wTup, wLst, wFz, wOp, wB, wAnd, wOr, wNot, wAndV, wOrV, wNotV, wIf, wNeg, wCB, wCL, wCallD, wRetB, wIsi, wSl, wNoPart, wPart, wRev, wFrz, wLend, wLendT, wLendL, muW, wFor, wSeq, wRange1, wRange2, wLc, wipeR, wgName, wgTup, wgCons, wgNil, startR, wJoin, wZip, wEnum, wEnumA, wDisp1, wDGet2, wBrk, wCnt, wIxOx, wIxO, wPopSet, wPopAt, wPopAtSet, popAtW, wExt, wSet2, xE, xT, xA, xCons, xTup, xLst, xFz, xOp, xB, xNot, xAnd, xOr, xSl, xCB, xCallD, xCallX, xCallL, xRet, xDrop, xIfS, xSet, xAsg, wRaise, wTry, wHandle, outPs, wXf, wXis, wChain, wCat, wLm, gCnt, ev_addI, ev_addS, ev_addT, ev_addL, ev_mulI, ev_I, ev_I0, ev_ltI, ev_ltS, ev_ge, ev_eqI, ev_eqS, ev_eqB, ev_p0, ev_p1, ev_p2, ev_lenL, ev_lenT, ev_lenS, ev_lenQ, ev_lenK, ev_tupL, ev_tupT, ev_lisL, ev_lisT, ev_intI, ev_intB, ev_max2, ev_min2, ev_repr, ev_reprB, ev_reprT, ev_eqRp, ev_slL, ev_slT, ev_slS, ev_seqL, ev_seqT, ev_seqS, ev_inL, ev_inT, ev_isB, ev_dO, ev_dat0, ev_dat1, ev_dat2, ev_dat3, ev_dat4, ev_dat5, ev_dat8, ev_i0, ev_i1, ev_i2, ev_l0, ev_l1, ev_l2, dats, List.zip_cons_cons, List.zip_nil_right, List.zip_nil_left, List.reverse_singleton, List.reverse_cons, List.reverse_nil, wYes, List.getElem?_cons_zero, List.getElem?_cons_succ, List.set_cons_zero, List.set_cons_succ, List.map_cons, List.map_nil, List.cons_append, List.nil_append, List.append_nil, List.replicate, List.length_cons, List.length_nil, Nat.reduceAdd, Nat.reduceSub, Option.some.injEq, List.append_eq, Nat.zero_add, exists_eq', exists_eq_left', Sl.mu.injEq, Mu.l.injEq, Sl.sh.injEq, W.p.injEq, true_and, and_true, or_true, true_or, ite_true, ite_false, if_true, if_false, Bool.false_eq_true, decide_eq_true_eq]
    refine r_take (by omega) (by omega) fun b hb0 hb1 => ?_
    simp only [wSeq2, wNext, wRet, wDrop, wIfS, wSet, wSetO, wSetN, wSetC, wSetIx, wSetI, wSetBx, wSetB, wAug, wApp, wAsg, wPar, wNilO, wConsO, wConsN, wL2N, putR, noUn, wVar, wC, wNil, wCons, wTup, wLst, wFz, wOp, wB, wAnd, wOr, wNot, wAndV, wOrV, wNotV, wIf, wNeg, wCB, wCL, wCallD, wRetB, wIsi, wSl, wNoPart, wPart, wRev, wFrz, wLend, wLendT, wLendL, muW, wFor, wSeq, wRange1, wRange2, wLc, wipeR, wgName, wgTup, wgCons, wgNil, startR, wJoin, wZip, wEnum, wEnumA, wDisp1, wDGet2, wBrk, wCnt, wIxOx, wIxO, wPopSet, wPopAt, wPopAtSet, popAtW, wExt, wSet2, xE, xT, xA, xCons, xTup, xLst, xFz, xOp, xB, xNot, xAnd, xOr, xSl, xCB, xCallD, xCallX, xCallL, xRet, xDrop, xIfS, xSet, xAsg, wRaise, wTry, wHandle, outPs, wXf, wXis, wChain, wCat, wLm, gCnt, ev_addI, ev_addS, ev_addT, ev_addL, ev_mulI, ev_I, ev_I0, ev_ltI, ev_ltS, ev_ge, ev_eqI, ev_eqS, ev_eqB, ev_p0, ev_p1, ev_p2, ev_lenL, ev_lenT, ev_lenS, ev_lenQ, ev_lenK, ev_tupL, ev_tupT, ev_lisL, ev_lisT, ev_intI, ev_intB, ev_max2, ev_min2, ev_repr, ev_reprB, ev_reprT, ev_eqRp, ev_slL, ev_slT, ev_slS, ev_seqL, ev_seqT, ev_seqS, ev_inL, ev_inT, ev_isB, ev_dO, ev_dat0, ev_dat1, ev_dat2, ev_dat3, ev_dat4, ev_dat5, ev_dat8, ev_i0, ev_i1, ev_i2, ev_l0, ev_l1, ev_l2, dats, List.zip_cons_cons, List.zip_nil_right, List.zip_nil_left, List.reverse_singleton, List.reverse_cons, List.reverse_nil, wYes, List.getElem?_cons_zero, List.getElem?_cons_succ, List.set_cons_zero, List.set_cons_succ, List.map_cons, List.map_nil, List.cons_append, List.nil_append, List.append_nil, List.replicate, List.length_cons, List.length_nil, Nat.reduceAdd, Nat.reduceSub, Option.some.injEq, List.append_eq, Nat.zero_add, exists_eq', exists_eq_left', Sl.mu.injEq, Mu.l.injEq, Sl.sh.injEq, W.p.injEq, true_and, and_true, or_true, true_or, ite_true, ite_false, if_true, if_false, Bool.false_eq_true, decide_eq_true_eq]
    refine r_ixl hb0 hb1 fun d hd2 => ?_
    obtain ⟨one, rfl, ho⟩ : ∃ one : Str, d = .str one ∧ one ∈ xs := by
      have := List.mem_of_getElem? hd2
      simp only [List.mem_cons, List.not_mem_nil, or_false] at this
      rcases this with rfl | rfl
      · exact ⟨_, rfl, hl⟩
      · exact ⟨_, rfl, hy⟩
    refine r_idx ho fun j hj _ => ?_
    have hjl := (List.getElem?_eq_some_iff.mp hj).1
    simp only [wSeq2, wNext, wRet, wDrop, wIfS, wSet, wSetO, wSetN, wSetC, wSetIx, wSetI, wSetBx, wSetB, wAug, wApp, wAsg, wPar, wNilO, wConsO, wConsN, wL2N, putR, noUn, wVar, wC, wNil, wCons, wTup, wLst, wFz, wOp, wB, wAnd, wOr, wNot, wAndV, wOrV, wNotV, wIf, wNeg, wCB, wCL, wCallD, wRetB, wIsi, wSl, wNoPart, wPart, wRev, wFrz, wLend, wLendT, wLendL, muW, wFor, wSeq, wRange1, wRange2, wLc, wipeR, wgName, wgTup, wgCons, wgNil, startR, wJoin, wZip, wEnum, wEnumA, wDisp1, wDGet2, wBrk, wCnt, wIxOx, wIxO, wPopSet, wPopAt, wPopAtSet, popAtW, wExt, wSet2, xE, xT, xA, xCons, xTup, xLst, xFz, xOp, xB, xNot, xAnd, xOr, xSl, xCB, xCallD, xCallX, xCallL, xRet, xDrop, xIfS, xSet, xAsg, wRaise, wTry, wHandle, outPs, wXf, wXis, wChain, wCat, wLm, gCnt, ev_addI, ev_addS, ev_addT, ev_addL, ev_mulI, ev_I, ev_I0, ev_ltI, ev_ltS, ev_ge, ev_eqI, ev_eqS, ev_eqB, ev_p0, ev_p1, ev_p2, ev_lenL, ev_lenT, ev_lenS, ev_lenQ, ev_lenK, ev_tupL, ev_tupT, ev_lisL, ev_lisT, ev_intI, ev_intB, ev_max2, ev_min2, ev_repr, ev_reprB, ev_reprT, ev_eqRp, ev_slL, ev_slT, ev_slS, ev_seqL, ev_seqT, ev_seqS, ev_inL, ev_inT, ev_isB, ev_dO, ev_dat0, ev_dat1, ev_dat2, ev_dat3, ev_dat4, ev_dat5, ev_dat8, ev_i0, ev_i1, ev_i2, ev_l0, ev_l1, ev_l2, dats, List.zip_cons_cons, List.zip_nil_right, List.zip_nil_left, List.reverse_singleton, List.reverse_cons, List.reverse_nil, wYes, List.getElem?_cons_zero, List.getElem?_cons_succ, List.set_cons_zero, List.set_cons_succ, List.map_cons, List.map_nil, List.cons_append, List.nil_append, List.append_nil, List.replicate, List.length_cons, List.length_nil, Nat.reduceAdd, Nat.reduceSub, Option.some.injEq, List.append_eq, Nat.zero_add, exists_eq', exists_eq_left', Sl.mu.injEq, Mu.l.injEq, Sl.sh.injEq, W.p.injEq, true_and, and_true, or_true, true_or, ite_true, ite_false, if_true, if_false, Bool.false_eq_true, decide_eq_true_eq]
    refine r_take (by omega) (by omega) fun t ht0 ht1 => ?_
    simp only [wSeq2, wNext, wRet, wDrop, wIfS, wSet, wSetO, wSetN, wSetC, wSetIx, wSetI, wSetBx, wSetB, wAug, wApp, wAsg, wPar, wNilO, wConsO, wConsN, wL2N, putR, noUn, wVar, wC, wNil, wCons, wTup, wLst, wFz, wOp, wB, wAnd, wOr, wNot, wAndV, wOrV, wNotV, wIf, wNeg, wCB, wCL, wCallD, wRetB, wIsi, wSl, wNoPart, wPart, wRev, wFrz, wLend, wLendT, wLendL, muW, wFor, wSeq, wRange1, wRange2, wLc, wipeR, wgName, wgTup, wgCons, wgNil, startR, wJoin, wZip, wEnum, wEnumA, wDisp1, wDGet2, wBrk, wCnt, wIxOx, wIxO, wPopSet, wPopAt, wPopAtSet, popAtW, wExt, wSet2, xE, xT, xA, xCons, xTup, xLst, xFz, xOp, xB, xNot, xAnd, xOr, xSl, xCB, xCallD, xCallX, xCallL, xRet, xDrop, xIfS, xSet, xAsg, wRaise, wTry, wHandle, outPs, wXf, wXis, wChain, wCat, wLm, gCnt, ev_addI, ev_addS, ev_addT, ev_addL, ev_mulI, ev_I, ev_I0, ev_ltI, ev_ltS, ev_ge, ev_eqI, ev_eqS, ev_eqB, ev_p0, ev_p1, ev_p2, ev_lenL, ev_lenT, ev_lenS, ev_lenQ, ev_lenK, ev_tupL, ev_tupT, ev_lisL, ev_lisT, ev_intI, ev_intB, ev_max2, ev_min2, ev_repr, ev_reprB, ev_reprT, ev_eqRp, ev_slL, ev_slT, ev_slS, ev_seqL, ev_seqT, ev_seqS, ev_inL, ev_inT, ev_isB, ev_dO, ev_dat0, ev_dat1, ev_dat2, ev_dat3, ev_dat4, ev_dat5, ev_dat8, ev_i0, ev_i1, ev_i2, ev_l0, ev_l1, ev_l2, dats, List.zip_cons_cons, List.zip_nil_right, List.zip_nil_left, List.reverse_singleton, List.reverse_cons, List.reverse_nil, wYes, List.getElem?_cons_zero, List.getElem?_cons_succ, List.set_cons_zero, List.set_cons_succ, List.map_cons, List.map_nil, List.cons_append, List.nil_append, List.append_nil, List.replicate, List.length_cons, List.length_nil, Nat.reduceAdd, Nat.reduceSub, Option.some.injEq, List.append_eq, Nat.zero_add, exists_eq', exists_eq_left', Sl.mu.injEq, Mu.l.injEq, Sl.sh.injEq, W.p.injEq, true_and, and_true, or_true, true_or, ite_true, ite_false, if_true, if_false, Bool.false_eq_true, decide_eq_true_eq]
    refine ⟨by omega, r_ixstr (Int.emod_nonneg _ (by omega)) (Int.emod_lt_of_pos _ (by omega)) fun other hot hoe => ?_⟩
    refine ⟨by omega, r_ixstr (by omega) (by omega) fun title htm hte => ?_⟩
    simp only [wSeq2, wNext, wRet, wDrop, wIfS, wSet, wSetO, wSetN, wSetC, wSetIx, wSetI, wSetBx, wSetB, wAug, wApp, wAsg, wPar, wNilO, wConsO, wConsN, wL2N, putR, noUn, wVar, wC, wNil, wCons, wTup, wLst, wFz, wOp, wB, wAnd, wOr, wNot, wAndV, wOrV, wNotV, wIf, wNeg, wCB, wCL, wCallD, wRetB, wIsi, wSl, wNoPart, wPart, wRev, wFrz, wLend, wLendT, wLendL, muW, wFor, wSeq, wRange1, wRange2, wLc, wipeR, wgName, wgTup, wgCons, wgNil, startR, wJoin, wZip, wEnum, wEnumA, wDisp1, wDGet2, wBrk, wCnt, wIxOx, wIxO, wPopSet, wPopAt, wPopAtSet, popAtW, wExt, wSet2, xE, xT, xA, xCons, xTup, xLst, xFz, xOp, xB, xNot, xAnd, xOr, xSl, xCB, xCallD, xCallX, xCallL, xRet, xDrop, xIfS, xSet, xAsg, wRaise, wTry, wHandle, outPs, wXf, wXis, wChain, wCat, wLm, gCnt, ev_addI, ev_addS, ev_addT, ev_addL, ev_mulI, ev_I, ev_I0, ev_ltI, ev_ltS, ev_ge, ev_eqI, ev_eqS, ev_eqB, ev_p0, ev_p1, ev_p2, ev_lenL, ev_lenT, ev_lenS, ev_lenQ, ev_lenK, ev_tupL, ev_tupT, ev_lisL, ev_lisT, ev_intI, ev_intB, ev_max2, ev_min2, ev_repr, ev_reprB, ev_reprT, ev_eqRp, ev_slL, ev_slT, ev_slS, ev_seqL, ev_seqT, ev_seqS, ev_inL, ev_inT, ev_isB, ev_dO, ev_dat0, ev_dat1, ev_dat2, ev_dat3, ev_dat4, ev_dat5, ev_dat8, ev_i0, ev_i1, ev_i2, ev_l0, ev_l1, ev_l2, dats, List.zip_cons_cons, List.zip_nil_right, List.zip_nil_left, List.reverse_singleton, List.reverse_cons, List.reverse_nil, wYes, List.getElem?_cons_zero, List.getElem?_cons_succ, List.set_cons_zero, List.set_cons_succ, List.map_cons, List.map_nil, List.cons_append, List.nil_append, List.append_nil, List.replicate, List.length_cons, List.length_nil, Nat.reduceAdd, Nat.reduceSub, Option.some.injEq, List.append_eq, Nat.zero_add, exists_eq', exists_eq_left', Sl.mu.injEq, Mu.l.injEq, Sl.sh.injEq, W.p.injEq, true_and, and_true, or_true, true_or, ite_true, ite_false, if_true, if_false, Bool.false_eq_true, decide_eq_true_eq]
    have hte' : ts[i]? = some title := by
      rw [← hte]
      congr 1
      omega
    refine hC _ ⟨ds ++ [(title, one, other)], other, .sh (.d (.int (0 + i))), .sh (.d (.str one)), .sh (.d (.int j)), .sh (.d (.str other)), by rw [List.length_append, hn]; rfl, ?_, fun p hp => ?_, hot, ?_⟩
    · rw [List.map_append, he, List.take_add_one, Nat.zero_add, hte']
      rfl
    · rcases List.mem_append.mp hp with z | z
      · exact hok p z
      · rw [List.mem_singleton.mp z]
        refine ⟨ot _ htm, ho, hot, fun e => ?_⟩
        have e2 : xs[j]? = some other := by rw [hj]; exact congrArg some e
        have e3 := hoe.trans e2.symm
        have hk : (((j : Int) + 1 + t) % (xs.length : Int)).toNat < xs.length := by
          have := Int.emod_lt_of_pos ((j : Int) + 1 + t) (show (0 : Int) < xs.length by omega)
          have := Int.emod_nonneg ((j : Int) + 1 + t) (show (xs.length : Int) ≠ 0 by omega)
          omega
        have e4 := (List.getElem?_inj hk nx.nd).mp e3
        have e5 : ((j : Int) + 1 + t) % (xs.length : Int) = j := by
          have := Int.emod_nonneg ((j : Int) + 1 + t) (show (xs.length : Int) ≠ 0 by omega)
          omega
        by_cases hw : (j : Int) + 1 + t < xs.length
        · rw [Int.emod_eq_of_lt (by omega) hw] at e5
          omega
        · have e6 : ((j : Int) + 1 + t) % (xs.length : Int) = (j : Int) + 1 + t - xs.length := by
            rw [← Int.emod_eq_of_lt (a := (j : Int) + 1 + t - xs.length) (b := xs.length) (by omega) (by omega)]
            exact (Int.sub_emod_right _ _).symm
          omega
    · rw [List.map_append]
      rfl
  · obtain ⟨ds, last, s8, s9, s10, s11, hn, he, hok, hl, rfl⟩ := hI
    rw [intsFrom_len, Nat.zero_add] at hn he
    have hn' : ds.length = many := by omega
    simp only [wSeq2, wNext, wRet, wDrop, wIfS, wSet, wSetO, wSetN, wSetC, wSetIx, wSetI, wSetBx, wSetB, wAug, wApp, wAsg, wPar, wNilO, wConsO, wConsN, wL2N, putR, noUn, wVar, wC, wNil, wCons, wTup, wLst, wFz, wOp, wB, wAnd, wOr, wNot, wAndV, wOrV, wNotV, wIf, wNeg, wCB, wCL, wCallD, wRetB, wIsi, wSl, wNoPart, wPart, wRev, wFrz, wLend, wLendT, wLendL, muW, wFor, wSeq, wRange1, wRange2, wLc, wipeR, wgName, wgTup, wgCons, wgNil, startR, wJoin, wZip, wEnum, wEnumA, wDisp1, wDGet2, wBrk, wCnt, wIxOx, wIxO, wPopSet, wPopAt, wPopAtSet, popAtW, wExt, wSet2, xE, xT, xA, xCons, xTup, xLst, xFz, xOp, xB, xNot, xAnd, xOr, xSl, xCB, xCallD, xCallX, xCallL, xRet, xDrop, xIfS, xSet, xAsg, wRaise, wTry, wHandle, outPs, wXf, wXis, wChain, wCat, wLm, gCnt, ev_addI, ev_addS, ev_addT, ev_addL, ev_mulI, ev_I, ev_I0, ev_ltI, ev_ltS, ev_ge, ev_eqI, ev_eqS, ev_eqB, ev_p0, ev_p1, ev_p2, ev_lenL, ev_lenT, ev_lenS, ev_lenQ, ev_lenK, ev_tupL, ev_tupT, ev_lisL, ev_lisT, ev_intI, ev_intB, ev_max2, ev_min2, ev_repr, ev_reprB, ev_reprT, ev_eqRp, ev_slL, ev_slT, ev_slS, ev_seqL, ev_seqT, ev_seqS, ev_inL, ev_inT, ev_isB, ev_dO, ev_dat0, ev_dat1, ev_dat2, ev_dat3, ev_dat4, ev_dat5, ev_dat8, ev_i0, ev_i1, ev_i2, ev_l0, ev_l1, ev_l2, dats, List.zip_cons_cons, List.zip_nil_right, List.zip_nil_left, List.reverse_singleton, List.reverse_cons, List.reverse_nil, wYes, List.getElem?_cons_zero, List.getElem?_cons_succ, List.set_cons_zero, List.set_cons_succ, List.map_cons, List.map_nil, List.cons_append, List.nil_append, List.append_nil, List.replicate, List.length_cons, List.length_nil, Nat.reduceAdd, Nat.reduceSub, Option.some.injEq, List.append_eq, Nat.zero_add, exists_eq', exists_eq_left', Sl.mu.injEq, Mu.l.injEq, Sl.sh.injEq, W.p.injEq, true_and, and_true, or_true, true_or, ite_true, ite_false, if_true, if_false, Bool.false_eq_true, decide_eq_true_eq]
    refine ⟨?_, q xs ds ⟨hxR, hx0, by omega, nx, hok, ?_⟩⟩
    · rw [noList]
      exact drs_noList ds
    · rw [he]
      exact nt.sublist (List.take_sublist _ _)
theorem m_law_hall (ws : List W) (Φ : W → Prop) (h : F_law_hall ws Φ) : w_law_hall F_law_take F_law_names (startR n_law_hall ws) ⟨fun _ => Φ (.d .none), Φ, fun _ => False, fun _ => False, fun _ _ => False⟩ := by
  obtain ⟨a, R, Dn, rfl, hR0, hR, hD, q⟩ := h
  simp only [w_law_hall, n_law_hall, wSeq2, wNext, wRet, wDrop, wIfS, wSet, wSetO, wSetN, wSetC, wSetIx, wSetI, wSetBx, wSetB, wAug, wApp, wAsg, wPar, wNilO, wConsO, wConsN, wL2N, putR, noUn, wVar, wC, wNil, wCons, wTup, wLst, wFz, wOp, wB, wAnd, wOr, wNot, wAndV, wOrV, wNotV, wIf, wNeg, wCB, wCL, wCallD, wRetB, wIsi, wSl, wNoPart, wPart, wRev, wFrz, wLend, wLendT, wLendL, muW, wFor, wSeq, wRange1, wRange2, wLc, wipeR, wgName, wgTup, wgCons, wgNil, startR, wJoin, wZip, wEnum, wEnumA, wDisp1, wDGet2, wBrk, wCnt, wIxOx, wIxO, wPopSet, wPopAt, wPopAtSet, popAtW, wExt, wSet2, xE, xT, xA, xCons, xTup, xLst, xFz, xOp, xB, xNot, xAnd, xOr, xSl, xCB, xCallD, xCallX, xCallL, xRet, xDrop, xIfS, xSet, xAsg, wRaise, wTry, wHandle, outPs, wXf, wXis, wChain, wCat, wLm, gCnt, ev_addI, ev_addS, ev_addT, ev_addL, ev_mulI, ev_I, ev_I0, ev_ltI, ev_ltS, ev_ge, ev_eqI, ev_eqS, ev_eqB, ev_p0, ev_p1, ev_p2, ev_lenL, ev_lenT, ev_lenS, ev_lenQ, ev_lenK, ev_tupL, ev_tupT, ev_lisL, ev_lisT, ev_intI, ev_intB, ev_max2, ev_min2, ev_repr, ev_reprB, ev_reprT, ev_eqRp, ev_slL, ev_slT, ev_slS, ev_seqL, ev_seqT, ev_seqS, ev_inL, ev_inT, ev_isB, ev_dO, ev_dat0, ev_dat1, ev_dat2, ev_dat3, ev_dat4, ev_dat5, ev_dat8, ev_i0, ev_i1, ev_i2, ev_l0, ev_l1, ev_l2, dats, List.zip_cons_cons, List.zip_nil_right, List.zip_nil_left, List.reverse_singleton, List.reverse_cons, List.reverse_nil, wYes, List.getElem?_cons_zero, List.getElem?_cons_succ, List.set_cons_zero, List.set_cons_succ, List.map_cons, List.map_nil, List.cons_append, List.nil_append, List.append_nil, List.replicate, List.length_cons, List.length_nil, Nat.reduceAdd, Nat.reduceSub, Option.some.injEq, List.append_eq, Nat.zero_add, exists_eq', exists_eq_left', Sl.mu.injEq, Mu.l.injEq, Sl.sh.injEq, W.p.injEq, true_and, and_true, or_true, true_or, ite_true, ite_false, if_true, if_false, Bool.false_eq_true, decide_eq_true_eq]
  refine r_take (by omega) (by omega) fun r hr0 hr1 => ?_
  simp only [wSeq2, wNext, wRet, wDrop, wIfS, wSet, wSetO, wSetN, wSetC, wSetIx, wSetI, wSetBx, wSetB, wAug, wApp, wAsg, wPar, wNilO, wConsO, wConsN, wL2N, putR, noUn, wVar, wC, wNil, wCons, wTup, wLst, wFz, wOp, wB, wAnd, wOr, wNot, wAndV, wOrV, wNotV, wIf, wNeg, wCB, wCL, wCallD, wRetB, wIsi, wSl, wNoPart, wPart, wRev, wFrz, wLend, wLendT, wLendL, muW, wFor, wSeq, wRange1, wRange2, wLc, wipeR, wgName, wgTup, wgCons, wgNil, startR, wJoin, wZip, wEnum, wEnumA, wDisp1, wDGet2, wBrk, wCnt, wIxOx, wIxO, wPopSet, wPopAt, wPopAtSet, popAtW, wExt, wSet2, xE, xT, xA, xCons, xTup, xLst, xFz, xOp, xB, xNot, xAnd, xOr, xSl, xCB, xCallD, xCallX, xCallL, xRet, xDrop, xIfS, xSet, xAsg, wRaise, wTry, wHandle, outPs, wXf, wXis, wChain, wCat, wLm, gCnt, ev_addI, ev_addS, ev_addT, ev_addL, ev_mulI, ev_I, ev_I0, ev_ltI, ev_ltS, ev_ge, ev_eqI, ev_eqS, ev_eqB, ev_p0, ev_p1, ev_p2, ev_lenL, ev_lenT, ev_lenS, ev_lenQ, ev_lenK, ev_tupL, ev_tupT, ev_lisL, ev_lisT, ev_intI, ev_intB, ev_max2, ev_min2, ev_repr, ev_reprB, ev_reprT, ev_eqRp, ev_slL, ev_slT, ev_slS, ev_seqL, ev_seqT, ev_seqS, ev_inL, ev_inT, ev_isB, ev_dO, ev_dat0, ev_dat1, ev_dat2, ev_dat3, ev_dat4, ev_dat5, ev_dat8, ev_i0, ev_i1, ev_i2, ev_l0, ev_l1, ev_l2, dats, List.zip_cons_cons, List.zip_nil_right, List.zip_nil_left, List.reverse_singleton, List.reverse_cons, List.reverse_nil, wYes, List.getElem?_cons_zero, List.getElem?_cons_succ, List.set_cons_zero, List.set_cons_succ, List.map_cons, List.map_nil, List.cons_append, List.nil_append, List.append_nil, List.replicate, List.length_cons, List.length_nil, Nat.reduceAdd, Nat.reduceSub, Option.some.injEq, List.append_eq, Nat.zero_add, exists_eq', exists_eq_left', Sl.mu.injEq, Mu.l.injEq, Sl.sh.injEq, W.p.injEq, true_and, and_true, or_true, true_or, ite_true, ite_false, if_true, if_false, Bool.false_eq_true, decide_eq_true_eq]
  refine r_names (by omega) (by omega) fun xs hx nx => ?_
  simp only [wSeq2, wNext, wRet, wDrop, wIfS, wSet, wSetO, wSetN, wSetC, wSetIx, wSetI, wSetBx, wSetB, wAug, wApp, wAsg, wPar, wNilO, wConsO, wConsN, wL2N, putR, noUn, wVar, wC, wNil, wCons, wTup, wLst, wFz, wOp, wB, wAnd, wOr, wNot, wAndV, wOrV, wNotV, wIf, wNeg, wCB, wCL, wCallD, wRetB, wIsi, wSl, wNoPart, wPart, wRev, wFrz, wLend, wLendT, wLendL, muW, wFor, wSeq, wRange1, wRange2, wLc, wipeR, wgName, wgTup, wgCons, wgNil, startR, wJoin, wZip, wEnum, wEnumA, wDisp1, wDGet2, wBrk, wCnt, wIxOx, wIxO, wPopSet, wPopAt, wPopAtSet, popAtW, wExt, wSet2, xE, xT, xA, xCons, xTup, xLst, xFz, xOp, xB, xNot, xAnd, xOr, xSl, xCB, xCallD, xCallX, xCallL, xRet, xDrop, xIfS, xSet, xAsg, wRaise, wTry, wHandle, outPs, wXf, wXis, wChain, wCat, wLm, gCnt, ev_addI, ev_addS, ev_addT, ev_addL, ev_mulI, ev_I, ev_I0, ev_ltI, ev_ltS, ev_ge, ev_eqI, ev_eqS, ev_eqB, ev_p0, ev_p1, ev_p2, ev_lenL, ev_lenT, ev_lenS, ev_lenQ, ev_lenK, ev_tupL, ev_tupT, ev_lisL, ev_lisT, ev_intI, ev_intB, ev_max2, ev_min2, ev_repr, ev_reprB, ev_reprT, ev_eqRp, ev_slL, ev_slT, ev_slS, ev_seqL, ev_seqT, ev_seqS, ev_inL, ev_inT, ev_isB, ev_dO, ev_dat0, ev_dat1, ev_dat2, ev_dat3, ev_dat4, ev_dat5, ev_dat8, ev_i0, ev_i1, ev_i2, ev_l0, ev_l1, ev_l2, dats, List.zip_cons_cons, List.zip_nil_right, List.zip_nil_left, List.reverse_singleton, List.reverse_cons, List.reverse_nil, wYes, List.getElem?_cons_zero, List.getElem?_cons_succ, List.set_cons_zero, List.set_cons_succ, List.map_cons, List.map_nil, List.cons_append, List.nil_append, List.append_nil, List.replicate, List.length_cons, List.length_nil, Nat.reduceAdd, Nat.reduceSub, Option.some.injEq, List.append_eq, Nat.zero_add, exists_eq', exists_eq_left', Sl.mu.injEq, Mu.l.injEq, Sl.sh.injEq, W.p.injEq, true_and, and_true, or_true, true_or, ite_true, ite_false, if_true, if_false, Bool.false_eq_true, decide_eq_true_eq]
  refine r_take (by omega) (by omega) fun y hy0 hy1 => ?_
  simp only [wSeq2, wNext, wRet, wDrop, wIfS, wSet, wSetO, wSetN, wSetC, wSetIx, wSetI, wSetBx, wSetB, wAug, wApp, wAsg, wPar, wNilO, wConsO, wConsN, wL2N, putR, noUn, wVar, wC, wNil, wCons, wTup, wLst, wFz, wOp, wB, wAnd, wOr, wNot, wAndV, wOrV, wNotV, wIf, wNeg, wCB, wCL, wCallD, wRetB, wIsi, wSl, wNoPart, wPart, wRev, wFrz, wLend, wLendT, wLendL, muW, wFor, wSeq, wRange1, wRange2, wLc, wipeR, wgName, wgTup, wgCons, wgNil, startR, wJoin, wZip, wEnum, wEnumA, wDisp1, wDGet2, wBrk, wCnt, wIxOx, wIxO, wPopSet, wPopAt, wPopAtSet, popAtW, wExt, wSet2, xE, xT, xA, xCons, xTup, xLst, xFz, xOp, xB, xNot, xAnd, xOr, xSl, xCB, xCallD, xCallX, xCallL, xRet, xDrop, xIfS, xSet, xAsg, wRaise, wTry, wHandle, outPs, wXf, wXis, wChain, wCat, wLm, gCnt, ev_addI, ev_addS, ev_addT, ev_addL, ev_mulI, ev_I, ev_I0, ev_ltI, ev_ltS, ev_ge, ev_eqI, ev_eqS, ev_eqB, ev_p0, ev_p1, ev_p2, ev_lenL, ev_lenT, ev_lenS, ev_lenQ, ev_lenK, ev_tupL, ev_tupT, ev_lisL, ev_lisT, ev_intI, ev_intB, ev_max2, ev_min2, ev_repr, ev_reprB, ev_reprT, ev_eqRp, ev_slL, ev_slT, ev_slS, ev_seqL, ev_seqT, ev_seqS, ev_inL, ev_inT, ev_isB, ev_dO, ev_dat0, ev_dat1, ev_dat2, ev_dat3, ev_dat4, ev_dat5, ev_dat8, ev_i0, ev_i1, ev_i2, ev_l0, ev_l1, ev_l2, dats, List.zip_cons_cons, List.zip_nil_right, List.zip_nil_left, List.reverse_singleton, List.reverse_cons, List.reverse_nil, wYes, List.getElem?_cons_zero, List.getElem?_cons_succ, List.set_cons_zero, List.set_cons_succ, List.map_cons, List.map_nil, List.cons_append, List.nil_append, List.append_nil, List.replicate, List.length_cons, List.length_nil, Nat.reduceAdd, Nat.reduceSub, Option.some.injEq, List.append_eq, Nat.zero_add, exists_eq', exists_eq_left', Sl.mu.injEq, Mu.l.injEq, Sl.sh.injEq, W.p.injEq, true_and, and_true, or_true, true_or, ite_true, ite_false, if_true, if_false, Bool.false_eq_true, decide_eq_true_eq]
  obtain ⟨many, hmany, hmD, hm1⟩ : ∃ many : Nat, (y * if 1 < ((xs.map PyData.str).length : Int) then 1 else 0) = many ∧ many ≤ Dn ∧ (many = 0 ∨ 1 < xs.length) := by
    rw [List.length_map]
    split
    · exact ⟨y.toNat, by omega, by omega, .inr (by omega)⟩
    · exact ⟨0, by omega, by omega, .inl rfl⟩
  rw [hmany]
  refine ⟨?_, ?_⟩
  · split
    · exact cmulR (by decide) (by decide)
    · exact cmulR (by decide) (by decide)
  refine r_names (by split <;> omega) (by split <;> omega) fun ts hts nts => ?_
  have htl : many ≤ ts.length := by split at hts <;> omega
  simp only [wSeq2, wNext, wRet, wDrop, wIfS, wSet, wSetO, wSetN, wSetC, wSetIx, wSetI, wSetBx, wSetB, wAug, wApp, wAsg, wPar, wNilO, wConsO, wConsN, wL2N, putR, noUn, wVar, wC, wNil, wCons, wTup, wLst, wFz, wOp, wB, wAnd, wOr, wNot, wAndV, wOrV, wNotV, wIf, wNeg, wCB, wCL, wCallD, wRetB, wIsi, wSl, wNoPart, wPart, wRev, wFrz, wLend, wLendT, wLendL, muW, wFor, wSeq, wRange1, wRange2, wLc, wipeR, wgName, wgTup, wgCons, wgNil, startR, wJoin, wZip, wEnum, wEnumA, wDisp1, wDGet2, wBrk, wCnt, wIxOx, wIxO, wPopSet, wPopAt, wPopAtSet, popAtW, wExt, wSet2, xE, xT, xA, xCons, xTup, xLst, xFz, xOp, xB, xNot, xAnd, xOr, xSl, xCB, xCallD, xCallX, xCallL, xRet, xDrop, xIfS, xSet, xAsg, wRaise, wTry, wHandle, outPs, wXf, wXis, wChain, wCat, wLm, gCnt, ev_addI, ev_addS, ev_addT, ev_addL, ev_mulI, ev_I, ev_I0, ev_ltI, ev_ltS, ev_ge, ev_eqI, ev_eqS, ev_eqB, ev_p0, ev_p1, ev_p2, ev_lenL, ev_lenT, ev_lenS, ev_lenQ, ev_lenK, ev_tupL, ev_tupT, ev_lisL, ev_lisT, ev_intI, ev_intB, ev_max2, ev_min2, ev_repr, ev_reprB, ev_reprT, ev_eqRp, ev_slL, ev_slT, ev_slS, ev_seqL, ev_seqT, ev_seqS, ev_inL, ev_inT, ev_isB, ev_dO, ev_dat0, ev_dat1, ev_dat2, ev_dat3, ev_dat4, ev_dat5, ev_dat8, ev_i0, ev_i1, ev_i2, ev_l0, ev_l1, ev_l2, dats, List.zip_cons_cons, List.zip_nil_right, List.zip_nil_left, List.reverse_singleton, List.reverse_cons, List.reverse_nil, wYes, List.getElem?_cons_zero, List.getElem?_cons_succ, List.set_cons_zero, List.set_cons_succ, List.map_cons, List.map_nil, List.cons_append, List.nil_append, List.append_nil, List.replicate, List.length_cons, List.length_nil, Nat.reduceAdd, Nat.reduceSub, Option.some.injEq, List.append_eq, Nat.zero_add, exists_eq', exists_eq_left', Sl.mu.injEq, Mu.l.injEq, Sl.sh.injEq, W.p.injEq, true_and, and_true, or_true, true_or, ite_true, ite_false, if_true, if_false, Bool.false_eq_true, decide_eq_true_eq]
  refine r_ixstr (by omega) (by omega) fun last hl _ => ?_
  try simp only [wSeq2, wNext, wRet, wDrop, wIfS, wSet, wSetO, wSetN, wSetC, wSetIx, wSetI, wSetBx, wSetB, wAug, wApp, wAsg, wPar, wNilO, wConsO, wConsN, wL2N, putR, noUn, wVar, wC, wNil, wCons, wTup, wLst, wFz, wOp, wB, wAnd, wOr, wNot, wAndV, wOrV, wNotV, wIf, wNeg, wCB, wCL, wCallD, wRetB, wIsi, wSl, wNoPart, wPart, wRev, wFrz, wLend, wLendT, wLendL, muW, wFor, wSeq, wRange1, wRange2, wLc, wipeR, wgName, wgTup, wgCons, wgNil, startR, wJoin, wZip, wEnum, wEnumA, wDisp1, wDGet2, wBrk, wCnt, wIxOx, wIxO, wPopSet, wPopAt, wPopAtSet, popAtW, wExt, wSet2, xE, xT, xA, xCons, xTup, xLst, xFz, xOp, xB, xNot, xAnd, xOr, xSl, xCB, xCallD, xCallX, xCallL, xRet, xDrop, xIfS, xSet, xAsg, wRaise, wTry, wHandle, outPs, wXf, wXis, wChain, wCat, wLm, gCnt, ev_addI, ev_addS, ev_addT, ev_addL, ev_mulI, ev_I, ev_I0, ev_ltI, ev_ltS, ev_ge, ev_eqI, ev_eqS, ev_eqB, ev_p0, ev_p1, ev_p2, ev_lenL, ev_lenT, ev_lenS, ev_lenQ, ev_lenK, ev_tupL, ev_tupT, ev_lisL, ev_lisT, ev_intI, ev_intB, ev_max2, ev_min2, ev_repr, ev_reprB, ev_reprT, ev_eqRp, ev_slL, ev_slT, ev_slS, ev_seqL, ev_seqT, ev_seqS, ev_inL, ev_inT, ev_isB, ev_dO, ev_dat0, ev_dat1, ev_dat2, ev_dat3, ev_dat4, ev_dat5, ev_dat8, ev_i0, ev_i1, ev_i2, ev_l0, ev_l1, ev_l2, dats, List.zip_cons_cons, List.zip_nil_right, List.zip_nil_left, List.reverse_singleton, List.reverse_cons, List.reverse_nil, wYes, List.getElem?_cons_zero, List.getElem?_cons_succ, List.set_cons_zero, List.set_cons_succ, List.map_cons, List.map_nil, List.cons_append, List.nil_append, List.append_nil, List.replicate, List.length_cons, List.length_nil, Nat.reduceAdd, Nat.reduceSub, Option.some.injEq, List.append_eq, Nat.zero_add, exists_eq', exists_eq_left', Sl.mu.injEq, Mu.l.injEq, Sl.sh.injEq, W.p.injEq, true_and, and_true, or_true, true_or, ite_true, ite_false, if_true, if_false, Bool.false_eq_true, decide_eq_true_eq]
  refine r_take (by omega) (by omega) fun z hz0 hz1 => ?_
  simp only [wSeq2, wNext, wRet, wDrop, wIfS, wSet, wSetO, wSetN, wSetC, wSetIx, wSetI, wSetBx, wSetB, wAug, wApp, wAsg, wPar, wNilO, wConsO, wConsN, wL2N, putR, noUn, wVar, wC, wNil, wCons, wTup, wLst, wFz, wOp, wB, wAnd, wOr, wNot, wAndV, wOrV, wNotV, wIf, wNeg, wCB, wCL, wCallD, wRetB, wIsi, wSl, wNoPart, wPart, wRev, wFrz, wLend, wLendT, wLendL, muW, wFor, wSeq, wRange1, wRange2, wLc, wipeR, wgName, wgTup, wgCons, wgNil, startR, wJoin, wZip, wEnum, wEnumA, wDisp1, wDGet2, wBrk, wCnt, wIxOx, wIxO, wPopSet, wPopAt, wPopAtSet, popAtW, wExt, wSet2, xE, xT, xA, xCons, xTup, xLst, xFz, xOp, xB, xNot, xAnd, xOr, xSl, xCB, xCallD, xCallX, xCallL, xRet, xDrop, xIfS, xSet, xAsg, wRaise, wTry, wHandle, outPs, wXf, wXis, wChain, wCat, wLm, gCnt, ev_addI, ev_addS, ev_addT, ev_addL, ev_mulI, ev_I, ev_I0, ev_ltI, ev_ltS, ev_ge, ev_eqI, ev_eqS, ev_eqB, ev_p0, ev_p1, ev_p2, ev_lenL, ev_lenT, ev_lenS, ev_lenQ, ev_lenK, ev_tupL, ev_tupT, ev_lisL, ev_lisT, ev_intI, ev_intB, ev_max2, ev_min2, ev_repr, ev_reprB, ev_reprT, ev_eqRp, ev_slL, ev_slT, ev_slS, ev_seqL, ev_seqT, ev_seqS, ev_inL, ev_inT, ev_isB, ev_dO, ev_dat0, ev_dat1, ev_dat2, ev_dat3, ev_dat4, ev_dat5, ev_dat8, ev_i0, ev_i1, ev_i2, ev_l0, ev_l1, ev_l2, dats, List.zip_cons_cons, List.zip_nil_right, List.zip_nil_left, List.reverse_singleton, List.reverse_cons, List.reverse_nil, wYes, List.getElem?_cons_zero, List.getElem?_cons_succ, List.set_cons_zero, List.set_cons_succ, List.map_cons, List.map_nil, List.cons_append, List.nil_append, List.append_nil, List.replicate, List.length_cons, List.length_nil, Nat.reduceAdd, Nat.reduceSub, Option.some.injEq, List.append_eq, Nat.zero_add, exists_eq', exists_eq_left', Sl.mu.injEq, Mu.l.injEq, Sl.sh.injEq, W.p.injEq, true_and, and_true, or_true, true_or, ite_true, ite_false, if_true, if_false, Bool.false_eq_true, decide_eq_true_eq]
  split
  · refine compW_inv (fun n acc => acc = ((ts.take n).filter fun y => !xs.any fun x => x == y).map PyData.str) 0 rfl (fun i d acc C hd hI hC => ?_) fun acc hI => ?_
    · subst hI
      rw [List.getElem?_map] at hd
      cases e : ts[i]? with
      | none => rw [e] at hd; cases hd
      | some t =>
        rw [e] at hd
        cases hd
        have hk : ts.take (0 + i + 1) = ts.take (0 + i) ++ [t] := by
          rw [List.take_add_one, Nat.zero_add, e]
          rfl
        rw [hk, List.filter_append, List.map_append] at hC
        simp only [wSeq2, wNext, wRet, wDrop, wIfS, wSet, wSetO, wSetN, wSetC, wSetIx, wSetI, wSetBx, wSetB, wAug, wApp, wAsg, wPar, wNilO, wConsO, wConsN, wL2N, putR, noUn, wVar, wC, wNil, wCons, wTup, wLst, wFz, wOp, wB, wAnd, wOr, wNot, wAndV, wOrV, wNotV, wIf, wNeg, wCB, wCL, wCallD, wRetB, wIsi, wSl, wNoPart, wPart, wRev, wFrz, wLend, wLendT, wLendL, muW, wFor, wSeq, wRange1, wRange2, wLc, wipeR, wgName, wgTup, wgCons, wgNil, startR, wJoin, wZip, wEnum, wEnumA, wDisp1, wDGet2, wBrk, wCnt, wIxOx, wIxO, wPopSet, wPopAt, wPopAtSet, popAtW, wExt, wSet2, xE, xT, xA, xCons, xTup, xLst, xFz, xOp, xB, xNot, xAnd, xOr, xSl, xCB, xCallD, xCallX, xCallL, xRet, xDrop, xIfS, xSet, xAsg, wRaise, wTry, wHandle, outPs, wXf, wXis, wChain, wCat, wLm, gCnt, ev_addI, ev_addS, ev_addT, ev_addL, ev_mulI, ev_I, ev_I0, ev_ltI, ev_ltS, ev_ge, ev_eqI, ev_eqS, ev_eqB, ev_p0, ev_p1, ev_p2, ev_lenL, ev_lenT, ev_lenS, ev_lenQ, ev_lenK, ev_tupL, ev_tupT, ev_lisL, ev_lisT, ev_intI, ev_intB, ev_max2, ev_min2, ev_repr, ev_reprB, ev_reprT, ev_eqRp, ev_slL, ev_slT, ev_slS, ev_seqL, ev_seqT, ev_seqS, ev_inL, ev_inT, ev_isB, ev_dO, ev_dat0, ev_dat1, ev_dat2, ev_dat3, ev_dat4, ev_dat5, ev_dat8, ev_i0, ev_i1, ev_i2, ev_l0, ev_l1, ev_l2, dats, List.zip_cons_cons, List.zip_nil_right, List.zip_nil_left, List.reverse_singleton, List.reverse_cons, List.reverse_nil, wYes, List.getElem?_cons_zero, List.getElem?_cons_succ, List.set_cons_zero, List.set_cons_succ, List.map_cons, List.map_nil, List.cons_append, List.nil_append, List.append_nil, List.replicate, List.length_cons, List.length_nil, Nat.reduceAdd, Nat.reduceSub, Option.some.injEq, List.append_eq, Nat.zero_add, exists_eq', exists_eq_left', Sl.mu.injEq, Mu.l.injEq, Sl.sh.injEq, W.p.injEq, true_and, and_true, or_true, true_or, ite_true, ite_false, if_true, if_false, Bool.false_eq_true, decide_eq_true_eq]
        refine ⟨by simp [PyData.depth], ?_⟩
        rw [any_str]
        cases hq : xs.any (fun x => x == t) with
        | true =>
          refine hC _ ?_
          rw [List.filter_cons_of_neg (by simp only [hq]; decide)]
          simp
        | false =>
          refine hC _ ?_
          rw [List.filter_cons_of_pos (by simp only [hq]; decide), Nat.zero_add]
          rfl
    · subst hI
      rw [show (ts.map PyData.str).length = ts.length from List.length_map .., Nat.zero_add, List.take_length, ← List.map_append]
      have hf := filter_len (xs := xs) nts.nd
      have hs := List.length_filter_le (fun y => !xs.any fun x => x == y) ts
      have htn : (ts.length : Int) ≤ 26 := by split at hts <;> omega
      refine ⟨small_line (by rw [List.length_map, List.length_map]; omega), m_hall_t nx (by omega) (by omega) hR hD hmD hm1 (by rw [List.length_append]; omega) ?_ (fun t ht => ?_) hl q⟩
      · rw [List.nodup_append]
        refine ⟨nx.nd, nts.nd.sublist List.filter_sublist, fun x hx y hy e => ?_⟩
        subst e
        have hy2 := (List.mem_filter.mp hy).2
        have : (xs.any fun z => z == x) = true := List.any_eq_true.mpr ⟨x, hx, by simp⟩
        rw [this] at hy2
        exact absurd hy2 (by decide)
      · rcases List.mem_append.mp ht with z | z
        · exact nx.ok t z
        · exact nts.ok t (List.mem_filter.mp z).1
  · exact m_hall_t nx (by omega) (by omega) hR hD hmD hm1 htl nts.nd nts.ok hl q
end Pd
end

section
set_option Elab.async false
set_option linter.all false
set_option maxRecDepth 100000
set_option autoImplicit false
set_option maxHeartbeats 4000000
namespace Pd
open PySem PySem.Spec PyProof.Rows L2
theorem compW_filt {α : Type} {f g : α → D} {keep : α → Bool} {wg : WG} {wt : WT} {we : WE} {ρ : Rh} {Φ : List D → Prop} : ∀ (xs : List α) (acc : List D),
    (∀ x ∈ xs, ∀ (acc' : List D) (C : List D → Prop), C (acc' ++ if keep x = true then [g x] else []) → wg (.d (f x)) ρ fun ρ' => wt ρ' fun k => if k = true then we ρ' fun r => (match r with
      | .d x => C (acc' ++ [x])
      | _ => False) else C acc') → Φ (acc ++ (xs.filter keep).map g) → compW wg wt we (xs.map f) ρ acc Φ
  | [], acc, _, q => by rw [List.filter_nil, List.map_nil, List.append_nil] at q; exact q
  | x :: xs, acc, h, q => h x List.mem_cons_self acc (fun a => compW wg wt we (xs.map f) ρ a Φ) (compW_filt xs _ (fun y hy => h y (List.mem_cons_of_mem _ hy)) (by
    cases hk : keep x with
    | true =>
      rw [List.filter_cons_of_pos hk, List.map_cons] at q
      rw [if_pos rfl, List.append_assoc]
      exact q
    | false =>
      rw [List.filter_cons_of_neg (by rw [hk]; decide)] at q
      simp only [Bool.false_eq_true, if_false, List.append_nil]
      exact q))
theorem compW_mp {α : Type} {f g : α → D} {wg : WG} {wt : WT} {we : WE} {ρ : Rh} {Φ : List D → Prop} (xs : List α) (h : ∀ x ∈ xs, ∀ (acc' : List D) (C : List D → Prop), C (acc' ++ [g x]) → wg (.d (f x)) ρ fun ρ' => wt ρ' fun k => if k = true then we ρ' fun r => (match r with
      | .d x => C (acc' ++ [x])
      | _ => False) else C acc') (q : Φ (xs.map g)) : compW wg wt we (xs.map f) ρ [] Φ :=
  compW_filt (keep := fun _ => true) xs [] (fun x hx acc C c => h x hx acc C (by simpa using c)) (by
    have : xs.filter (fun _ => true) = xs := List.filter_eq_self.mpr fun _ _ => rfl
    rw [this]
    exact q)
theorem d0 (x : Str) : (PyData.str x).depth = 0 := by simp [PyData.depth]
theorem dA0 : ∀ xs : List Str, PyData.depthAll (xs.map PyData.str) = 0
  | [] => by simp [PyData.depthAll]
  | x :: xs => by rw [List.map_cons, PyData.depthAll, dA0 xs, d0]; rfl
theorem eqS (x y : Str) : PyData.eqv (.str x) (.str y) = (x == y) := by rw [PyData.eqv]
abbrev Hall26 (names : List Str) (doors : List Door) : Prop := HallOk 26 26 names doors
theorem HallOk.up {R Dn : Nat} {names : List Str} {doors : List Door} (h : HallOk R Dn names doors) (hR : R ≤ 26) (hD : Dn ≤ 26) : Hall26 names doors := ⟨Nat.le_trans h.len hR, h.pos, Nat.le_trans h.dlen hD, h.nm, h.drs, h.nd⟩
theorem any_mem {x : Str} {xs : List Str} : (xs.any fun y => y == x) = decide (x ∈ xs) := by
  rw [Bool.eq_iff_iff, List.any_eq_true, decide_eq_true_eq]
  constructor
  · rintro ⟨y, hy, e⟩
    have : y = x := by simpa using e
    exact this ▸ hy
  · exact fun h => ⟨x, h, by simp⟩
theorem doors_show : ∀ row : List Door, PyData.showableAll (row.map doorD) = true
  | [] => by simp [PyData.showableAll]
  | p :: r => by simp [PyData.showableAll, PyData.showable, doorD, doors_show r]
theorem strs_show : ∀ row : List Str, PyData.showableAll (row.map PyData.str) = true
  | [] => by simp [PyData.showableAll]
  | p :: r => by simp [PyData.showableAll, PyData.showable, strs_show r]
theorem doors_ints : ∀ row : List Door, PyData.intsShortAll 13 (row.map doorD) = true
  | [] => by simp [PyData.intsShortAll]
  | p :: r => by simp [PyData.intsShortAll, PyData.intsShort, doorD, doors_ints r]
theorem strs_ints : ∀ row : List Str, PyData.intsShortAll 13 (row.map PyData.str) = true
  | [] => by simp [PyData.intsShortAll]
  | p :: r => by simp [PyData.intsShortAll, PyData.intsShort, strs_ints r]
theorem doors_weight (names : List Str) (hn : ∀ x ∈ names, NameOk x) : ∀ row : List Door, (∀ p ∈ row, DoorOk names p) → PyData.weightAll (row.map doorD) ≤ 60 * row.length
  | [], _ => by simp [PyData.weightAll]
  | p :: r, h => by
    have ih := doors_weight names hn r fun q hq => h q (List.mem_cons_of_mem _ hq)
    have h1 := h p List.mem_cons_self
    have e1 : p.1.cps.size ≤ 16 := h1.ok.len
    have e2 : p.2.1.cps.size ≤ 16 := (hn _ h1.one).len
    have e3 : p.2.2.cps.size ≤ 16 := (hn _ h1.two).len
    simp only [List.map_cons, PyData.weightAll, doorD, PyData.weight, List.length_cons]
    omega
theorem strs_weight : ∀ row : List Str, (∀ x ∈ row, NameOk x) → PyData.weightAll (row.map PyData.str) ≤ 20 * row.length
  | [], _ => by simp [PyData.weightAll]
  | p :: r, h => by
    have ih := strs_weight r fun q hq => h q (List.mem_cons_of_mem _ hq)
    have e1 : p.cps.size ≤ 16 := (h p List.mem_cons_self).len
    simp only [List.map_cons, PyData.weightAll, PyData.weight, List.length_cons]
    omega
theorem doors_depth : ∀ row : List Door, PyData.depthAll (row.map doorD) ≤ 1
  | [] => by simp [PyData.depthAll]
  | p :: r => by
    have := doors_depth r
    simp only [List.map_cons, PyData.depthAll, doorD, PyData.depth]
    omega
theorem hall_depth (names : List Str) (doors : List Door) : (hallD names doors).depth ≤ 3 := by
  have := doors_depth doors
  simp only [hallD, PyData.depth, PyData.depthAll, dA0]
  omega
theorem hall_repr {R Dn : Nat} {names : List Str} {doors : List Door} (h : HallOk R Dn names doors) (hR : R ≤ 30) (hD : Dn ≤ 30) : reprOk (hallD names doors) = true := by
  have d := hall_depth names doors
  have w1 := doors_weight names h.nm.ok doors h.drs
  have w2 := strs_weight names h.nm.ok
  have l1 := h.len
  have l2 := h.dlen
  have d' : (hallD names doors).depth ≤ 50 := by omega
  unfold reprOk
  simp only [hallD, PyData.showable, PyData.showableAll, doors_show, strs_show, PyData.intsShort, PyData.intsShortAll, doors_ints, strs_ints, Bool.and_true, Bool.true_and, Bool.and_eq_true, decide_eq_true_eq, PyData.weight, PyData.weightAll]
  refine ⟨decide_eq_true (by unfold hallD at d; omega), ?_⟩
  omega
theorem r_box {s : Addr} {ns : List Int} {k : Int} {Φ : W → Prop} (h0 : 0 ≤ k) (h1 : k < 1000000) (q : ∀ a, Φ (.p a)) : F_law_box [.sq s ns, .d (.int k)] Φ := ⟨s, ns, k, rfl, h0, h1, q⟩
theorem r_hall {a : Addr} {R Dn : Nat} {r d : Int} {Φ : W → Prop} (hr : r = R) (hd : d = Dn) (h0 : 0 < R) (h1 : R ≤ 26) (h2 : Dn ≤ 26) (q : ∀ names doors, HallOk R Dn names doors → Φ (.d (hallD names doors))) : F_law_hall [.p a, .d (.int r), .d (.int d)] Φ := ⟨a, R, Dn, by rw [hr, hd], h0, h1, h2, q⟩
theorem r_while {wc : WT} {wb : WS} {ρ : Rh} {P : Ps} (I : Nat → Rh → Prop) (n : Nat) (h0 : I n ρ) (step : ∀ n ρ', I n ρ' → wc ρ' fun k => if k = true then wb ρ' ⟨fun r => ∃ m, m < n ∧ I m r, P.rt, P.nx, fun r => ∃ m, m < n ∧ I m r, P.ex⟩ else P.nx ρ') : wWhile wc wb ρ P := ⟨I, ⟨n, h0⟩, step⟩
theorem seq_at {z : Int} {n : Nat} (h0 : 0 ≤ z) (h1 : z < n) : seqIndex? z n = some z.toNat := by
  unfold seqIndex?
  have hz : ¬ z < 0 := by omega
  simp only [if_neg hz, decide_eq_true h0, decide_eq_true h1, Bool.and_self, if_true]
theorem er_map : ∀ (xs : List Str) (k : Nat), (xs.map PyData.str).eraseIdx k = (xs.eraseIdx k).map PyData.str
  | [], _ => rfl
  | x :: xs, 0 => rfl
  | x :: xs, k + 1 => by rw [List.map_cons, List.eraseIdx_cons_succ, List.eraseIdx_cons_succ, List.map_cons, er_map xs k]
theorem noList_int (i : Int) : noList (.int i) = true := rfl
theorem find_uniq {x : Str} {p : Door} : ∀ {doors : List Door}, (doors.map (·.1)).Nodup → p ∈ doors → p.1 = x → doors.find? (fun q => q.1 == x) = some p
  | q :: r, nd, hp, e => by
    rw [List.map_cons, List.nodup_cons] at nd
    rcases List.mem_cons.mp hp with rfl | z
    · rw [List.find?_cons_of_pos (by simpa using e)]
    · have : q.1 ≠ x := fun e2 => nd.1 (List.mem_map.mpr ⟨p, z, e.trans e2.symm⟩)
      rw [List.find?_cons_of_neg (by simpa using this)]
      exact find_uniq nd.2 z e
theorem strs_plain : ∀ xs : List Str, plainA (xs.map PyData.str) = true
  | [] => rfl
  | x :: xs => by rw [List.map_cons, plainA, strs_plain xs]; rfl
theorem bools_map : ∀ bs : List Bool, boolsD (bs.map PyData.bool) = some bs
  | [] => rfl
  | b :: bs => by simp only [List.map_cons, boolsD, bools_map bs]
theorem r_all {f : List Bool → Bool} {bs : List Bool} {Φ : W → Prop} (q : Φ (.d (.bool (f bs)))) : oAnyAll f [.d (.list (bs.map PyData.bool))] Φ := by
  unfold oAnyAll
  simp only [bools_map]
  exact q
theorem find_first {p : Nat → Bool} {n i : Nat} (h : ∀ j, j < i → p j = false) (hi : i < n) (hp : p i = true) : (List.range n).find? p = some i := by
  rw [List.find?_range_eq_some]
  exact ⟨hp, by simpa using hi, fun j hj => by simp [h j hj]⟩
theorem find_none {p : Nat → Bool} {n : Nat} (h : ∀ j, j < n → p j = false) : (List.range n).find? p = none := by
  rw [List.find?_eq_none]
  intro j hj
  rw [h j (List.mem_range.mp hj)]
  decide
end Pd
end

section
set_option Elab.async false
set_option linter.all false
set_option maxRecDepth 100000
set_option autoImplicit false
set_option maxHeartbeats 4000000
namespace Pd
open PySem PySem.Spec PyProof.Rows L2
def n_is_name : List Str := ["value", "letter"]
def w_is_name : WS :=
    (wSeq2 (wIfS (wOr (wNot (wB (wIsi (wVar 0) [.str]))) (wNot (wB (wChain (oLt (fun i j => decide (i ≤ j)) leL) (oLt (fun i j => decide (i ≤ j)) leL) (wC (.d (.int 1))) (wCB oLen (wCons (wVar 0) wNil)) (wC (.d (.int 6))))))) (wRet (wC (.d (.bool false)))) wNext)
    (wRet (wCB (oAnyAll fun bs => bs.all _root_.id) (wCons (wFz (wLc (wSeq (wVar 0)) (wgName 1) wYes (wOp (oIn false) (wVar 1) (wC (.d (.str "abcdefghijklmnopqrstuvwxyz")))) [1])) wNil))))
def n_are_strings : List Str := ["value", "size", "part"]
def w_are_strings : WS :=
    (wRet (wAndV (wIsi (wVar 0) [.tuple]) (wAndV (wOp (oEq false) (wCB oLen (wCons (wVar 0) wNil)) (wVar 1)) (wCB (oAnyAll fun bs => bs.all _root_.id) (wCons (wFz (wLc (wSeq (wVar 0)) (wgName 2) wYes (wIsi (wVar 2) [.str]) [2])) wNil)))))
def n_has_form : List Str := ["value", "rooms", "doors", "part", "door"]
def w_has_form (F_are_strings : FW) : WS :=
    (wSeq2 (wIfS (wOr (wNot (wB (wIsi (wVar 0) [.tuple]))) (wOr (wB (wOp (oEq true) (wCB oLen (wCons (wVar 0) wNil)) (wC (.d (.int 2))))) (wNot (wB (wCB (oAnyAll fun bs => bs.all _root_.id) (wCons (wFz (wLc (wSeq (wVar 0)) (wgName 3) wYes (wIsi (wVar 3) [.tuple]) [3])) wNil)))))) (wRet (wC (.d (.bool false)))) wNext)
    (wSeq2 (wAsg (wVar 0) (wgTup 2 (wgCons (wgName 1) (wgCons (wgName 2) wgNil))))
    (wRet (wAndV (wCallD F_are_strings (wCons (wVar 1) (wCons (wCB oLen (wCons (wVar 1) wNil)) wNil))) (wCB (oAnyAll fun bs => bs.all _root_.id) (wCons (wFz (wLc (wSeq (wVar 2)) (wgName 4) wYes (wCallD F_are_strings (wCons (wVar 4) (wCons (wC (.d (.int 3))) wNil))) [4])) wNil))))))
def n_validate_rooms : List Str := ["rooms", "index", "room"]
def w_validate_rooms (F_is_name : FW) : WS :=
    (wFor (wEnumA (wCons (wVar 0) wNil)) (wgTup 2 (wgCons (wgName 1) (wgCons (wgName 2) wgNil))) (wIfS (wOr (wNot (wB (wCallD F_is_name (wCons (wVar 2) wNil)))) (wB (wOp (oIn false) (wVar 2) (wSl (wVar 0) wNoPart (wPart (wVar 1)))))) (wRaise "InvalidHall" ["reason", "index"] (wCons (wC (.d (.str "room"))) (wCons (wVar 1) wNil))) wNext))
def n_validate_doors : List Str := ["rooms", "doors", "index", "door", "one", "other", "earlier", "first", "second"]
def w_validate_doors (F_is_name : FW) : WS :=
    (wFor (wEnumA (wCons (wVar 1) wNil)) (wgTup 2 (wgCons (wgName 2) (wgCons (wgTup 3 (wgCons (wgName 3) (wgCons (wgName 4) (wgCons (wgName 5) wgNil)))) wgNil))) (wSeq2 (wIfS (wOr (wNot (wB (wCallD F_is_name (wCons (wVar 3) wNil)))) (wB (wOp (oIn false) (wVar 3) (wFz (wLc (wSeq (wSl (wVar 1) wNoPart (wPart (wVar 2)))) (wgTup 3 (wgCons (wgName 6) (wgCons (wgName 7) (wgCons (wgName 8) wgNil)))) wYes (wVar 6) [6, 7, 8]))))) (wRaise "InvalidHall" ["reason", "index"] (wCons (wC (.d (.str "door"))) (wCons (wVar 2) wNil))) wNext)
    (wIfS (wOr (wB (wOp (oIn true) (wVar 4) (wVar 0))) (wOr (wB (wOp (oIn true) (wVar 5) (wVar 0))) (wB (wOp (oEq false) (wVar 4) (wVar 5))))) (wRaise "InvalidHall" ["reason", "index"] (wCons (wC (.d (.str "end"))) (wCons (wVar 2) wNil))) wNext)))
def n_validate_hall : List Str := ["value", "rooms", "doors"]
def w_validate_hall (F_validate_rooms : FX) (F_validate_doors : FX) (F_has_form : FW) : WS :=
    (wSeq2 (wIfS (wNot (wB (wCallD F_has_form (wCons (wVar 0) wNil)))) (wRaise "InvalidHall" ["reason", "index"] (wCons (wC (.d (.str "form"))) (wCons (wC (.d (.int 0))) wNil))) wNext)
    (wSeq2 (wAsg (wVar 0) (wgTup 2 (wgCons (wgName 1) (wgCons (wgName 2) wgNil))))
    (wSeq2 (wIfS (wNot (wB (wChain (oLt (fun i j => decide (i ≤ j)) leL) (oLt (fun i j => decide (i ≤ j)) leL) (wC (.d (.int 1))) (wCB oLen (wCons (wVar 1) wNil)) (wC (.d (.int 8)))))) (wRaise "InvalidHall" ["reason", "index"] (wCons (wC (.d (.str "rooms"))) (wCons (wC (.d (.int 0))) wNil))) wNext)
    (wSeq2 (wIfS (wB (wOp (oLt (fun i j => decide (j < i)) gtL) (wCB oLen (wCons (wVar 2) wNil)) (wC (.d (.int 12))))) (wRaise "InvalidHall" ["reason", "index"] (wCons (wC (.d (.str "doors"))) (wCons (wC (.d (.int 0))) wNil))) wNext)
    (wSeq2 (xDrop (xCallX F_validate_rooms (xA (wCons (wVar 1) wNil))))
    (wSeq2 (xDrop (xCallX F_validate_doors (xA (wCons (wVar 1) (wCons (wVar 2) wNil)))))
    (wRet (wC (.d (.bool true))))))))))
end Pd
end

section
set_option Elab.async false
set_option linter.all false
set_option maxRecDepth 100000
set_option autoImplicit false
set_option maxHeartbeats 4000000
namespace Pd
open PySem PySem.Spec PyProof.Rows L2
/-! ### what a hall is -/
def inL (c : Nat) : Bool := !(Builtin.Str.occurrences letters ⟨#[c]⟩ 0 letters.length 1).isEmpty
def isNameS (x : Str) : Bool := decide (1 ≤ x.length) && decide (x.length ≤ 6) && x.cps.toList.all inL
def isNameD : D → Bool
  | .str x => isNameS x
  | _ => false
def doorOf : D → Option Door
  | .tuple xs => match strsD xs with
    | some [a, b, c] => some (a, b, c)
    | _ => none
  | _ => none
def doorsOf : List D → Option (List Door)
  | [] => some []
  | d :: ds => match doorOf d, doorsOf ds with
    | some p, some r => some (p :: r)
    | _, _ => none
def formOf : D → Option (List Str × List Door)
  | .tuple [.tuple rs, .tuple ds] => match strsD rs, doorsOf ds with
    | some r, some d => some (r, d)
    | _, _ => none
  | _ => none
theorem doorOf_eq {d : D} {p : Door} (h : doorOf d = some p) : d = doorD p := by
  unfold doorOf at h
  split at h
  · split at h
    · rename_i e
      cases h
      rw [strsD_eq e]
      rfl
    · cases h
  · cases h
theorem doorsOf_eq : ∀ {ds : List D} {ps : List Door}, doorsOf ds = some ps → ds = ps.map doorD
  | [], ps, h => by
    rw [doorsOf] at h
    cases h
    rfl
  | d :: ds, ps, h => by
    rw [doorsOf] at h
    split at h
    · rename_i p r h1 h2
      cases h
      rw [List.map_cons, ← doorOf_eq h1, ← doorsOf_eq h2]
    · cases h
theorem formOf_eq {d : D} {rs : List Str} {ps : List Door} (h : formOf d = some (rs, ps)) : d = hallD rs ps := by
  unfold formOf at h
  split at h
  · split at h
    · rename_i h1 h2
      cases h
      unfold hallD
      rw [← strsD_eq h1, ← doorsOf_eq h2]
    · cases h
  · cases h
theorem doorOf_door (p : Door) : doorOf (doorD p) = some p := rfl
theorem doorsOf_map : ∀ ps : List Door, doorsOf (ps.map doorD) = some ps
  | [] => rfl
  | p :: ps => by rw [List.map_cons, doorsOf, doorOf_door, doorsOf_map ps]
theorem formOf_hall (rs : List Str) (ps : List Door) : formOf (hallD rs ps) = some (rs, ps) := by
  show (match strsD (rs.map PyData.str), doorsOf (ps.map doorD) with
      | some r, some d => some (r, d)
      | _, _ => none) = some (rs, ps)
  rw [strsD_map, doorsOf_map]
def F_is_name : FW := fun ws Φ => ∃ d, ws = [.d d] ∧ Φ (.d (.bool (isNameD d)))
theorem l_is_name (ws : List W) (Φ : W → Prop) (h : F_is_name ws Φ) : ws.length = 1 := by
  obtain ⟨_, rfl, _⟩ := h
  rfl
theorem if_b {c : Bool} {α : Type} {a b : α} : (if c = true then a else b) = (match c with | true => a | false => b) := by cases c <;> rfl
theorem all_isStr : ∀ xs : List D, ((xs.map fun d => isD d .str).all id) = (strsD xs).isSome
  | [] => rfl
  | d :: ds => by
    have ih := all_isStr ds
    cases d with
    | str x =>
      rw [List.map_cons, List.all_cons, ih]
      show (true && _) = _
      rw [Bool.true_and, strsD]
      cases strsD ds <;> rfl
    | _ => rfl
def isStrs3 : D → Bool
  | .tuple xs => decide ((xs.length : Int) = 3) && (strsD xs).isSome
  | _ => false
theorem isStrs3_door (d : D) : isStrs3 d = (doorOf d).isSome := by
  cases d with
  | tuple xs =>
    show (decide ((xs.length : Int) = 3) && (strsD xs).isSome) = (match strsD xs with
      | some [a, b, c] => some (a, b, c)
      | _ => none : Option Door).isSome
    cases h : strsD xs with
    | none => simp
    | some ys =>
      have e : xs.length = ys.length := by rw [strsD_eq h, List.length_map]
      rw [e]
      match ys with
      | [] => rfl
      | [_] => rfl
      | [_, _] => rfl
      | [_, _, _] => rfl
      | _ :: _ :: _ :: _ :: r =>
        rw [decide_eq_false (by simp only [List.length_cons]; omega)]
        rfl
  | _ => rfl
theorem compW_ds {g : D → D} {wg : WG} {wt : WT} {we : WE} {ρ : Rh} {Φ : List D → Prop} (ds : List D) (h : ∀ d ∈ ds, ∀ (acc' : List D) (C : List D → Prop), C (acc' ++ [g d]) → wg (.d d) ρ fun ρ' => wt ρ' fun k => if k = true then we ρ' fun r => (match r with
      | .d x => C (acc' ++ [x])
      | _ => False) else C acc') (q : Φ (ds.map g)) : compW wg wt we ds ρ [] Φ := by
  have e : ds = ds.map fun x => x := by simp
  rw [e]
  exact compW_mp ds h q
theorem all_door : ∀ xs : List D, ((xs.map isStrs3).all id) = (doorsOf xs).isSome
  | [] => rfl
  | d :: ds => by
    have ih := all_door ds
    simp only [List.map_cons, List.all_cons, doorsOf, id] at ih ⊢
    rw [ih, isStrs3_door]
    cases doorOf d <;> cases doorsOf ds <;> rfl
theorem m_is_name (ws : List W) (Φ : W → Prop) (h : F_is_name ws Φ) : w_is_name (startR n_is_name ws) ⟨fun _ => Φ (.d .none), Φ, fun _ => False, fun _ => False, fun _ _ => False⟩ := by
  obtain ⟨d, rfl, q⟩ := h
  simp only [w_is_name, n_is_name, wSeq2, wNext, wRet, wDrop, wIfS, wSet, wSetO, wSetN, wSetC, wSetIx, wSetI, wSetBx, wSetB, wAug, wApp, wAsg, wPar, wNilO, wConsO, wConsN, wL2N, putR, noUn, wVar, wC, wNil, wCons, wTup, wLst, wFz, wOp, wB, wAnd, wOr, wNot, wAndV, wOrV, wNotV, wIf, wNeg, wCB, wCL, wCallD, wRetB, wIsi, wSl, wNoPart, wPart, wRev, wFrz, wLend, wLendT, wLendL, muW, wFor, wSeq, wRange1, wRange2, wLc, wipeR, wgName, wgTup, wgCons, wgNil, startR, wJoin, wZip, wEnum, wEnumA, wDisp1, wDGet2, wBrk, wCnt, wIxOx, wIxO, wPopSet, wPopAt, wPopAtSet, popAtW, wExt, wSet2, xE, xT, xA, xCons, xTup, xLst, xFz, xOp, xB, xNot, xAnd, xOr, xSl, xCB, xCallD, xCallX, xCallL, xRet, xDrop, xIfS, xSet, xAsg, wRaise, wTry, wHandle, outPs, wXf, wXis, wChain, wCat, wLm, gCnt, ev_addI, ev_addS, ev_addT, ev_addL, ev_mulI, ev_I, ev_I0, ev_ltI, ev_ltS, ev_ge, ev_eqI, ev_eqS, ev_eqB, ev_p0, ev_p1, ev_p2, ev_lenL, ev_lenT, ev_lenS, ev_lenQ, ev_lenK, ev_tupL, ev_tupT, ev_lisL, ev_lisT, ev_intI, ev_intB, ev_max2, ev_min2, ev_repr, ev_reprB, ev_reprT, ev_eqRp, ev_slL, ev_slT, ev_slS, ev_seqL, ev_seqT, ev_seqS, ev_inL, ev_inT, ev_isB, ev_dO, ev_dat0, ev_dat1, ev_dat2, ev_dat3, ev_dat4, ev_dat5, ev_dat8, ev_i0, ev_i1, ev_i2, ev_l0, ev_l1, ev_l2, dats, List.zip_cons_cons, List.zip_nil_right, List.zip_nil_left, List.reverse_singleton, List.reverse_cons, List.reverse_nil, wYes, List.getElem?_cons_zero, List.getElem?_cons_succ, List.set_cons_zero, List.set_cons_succ, List.map_cons, List.map_nil, List.cons_append, List.nil_append, List.append_nil, List.replicate, List.length_cons, List.length_nil, Nat.reduceAdd, Nat.reduceSub, Option.some.injEq, List.append_eq, Nat.zero_add, exists_eq', exists_eq_left', Sl.mu.injEq, Mu.l.injEq, Sl.sh.injEq, W.p.injEq, true_and, and_true, or_true, true_or, ite_true, ite_false, if_true, if_false, Bool.false_eq_true, decide_eq_true_eq, List.any_cons, List.any_nil, Bool.or_false]
  cases d with
  | str x =>
    simp only [isD, Bool.not_true, wSeq2, wNext, wRet, wDrop, wIfS, wSet, wSetO, wSetN, wSetC, wSetIx, wSetI, wSetBx, wSetB, wAug, wApp, wAsg, wPar, wNilO, wConsO, wConsN, wL2N, putR, noUn, wVar, wC, wNil, wCons, wTup, wLst, wFz, wOp, wB, wAnd, wOr, wNot, wAndV, wOrV, wNotV, wIf, wNeg, wCB, wCL, wCallD, wRetB, wIsi, wSl, wNoPart, wPart, wRev, wFrz, wLend, wLendT, wLendL, muW, wFor, wSeq, wRange1, wRange2, wLc, wipeR, wgName, wgTup, wgCons, wgNil, startR, wJoin, wZip, wEnum, wEnumA, wDisp1, wDGet2, wBrk, wCnt, wIxOx, wIxO, wPopSet, wPopAt, wPopAtSet, popAtW, wExt, wSet2, xE, xT, xA, xCons, xTup, xLst, xFz, xOp, xB, xNot, xAnd, xOr, xSl, xCB, xCallD, xCallX, xCallL, xRet, xDrop, xIfS, xSet, xAsg, wRaise, wTry, wHandle, outPs, wXf, wXis, wChain, wCat, wLm, gCnt, ev_addI, ev_addS, ev_addT, ev_addL, ev_mulI, ev_I, ev_I0, ev_ltI, ev_ltS, ev_ge, ev_eqI, ev_eqS, ev_eqB, ev_p0, ev_p1, ev_p2, ev_lenL, ev_lenT, ev_lenS, ev_lenQ, ev_lenK, ev_tupL, ev_tupT, ev_lisL, ev_lisT, ev_intI, ev_intB, ev_max2, ev_min2, ev_repr, ev_reprB, ev_reprT, ev_eqRp, ev_slL, ev_slT, ev_slS, ev_seqL, ev_seqT, ev_seqS, ev_inL, ev_inT, ev_isB, ev_dO, ev_dat0, ev_dat1, ev_dat2, ev_dat3, ev_dat4, ev_dat5, ev_dat8, ev_i0, ev_i1, ev_i2, ev_l0, ev_l1, ev_l2, dats, List.zip_cons_cons, List.zip_nil_right, List.zip_nil_left, List.reverse_singleton, List.reverse_cons, List.reverse_nil, wYes, List.getElem?_cons_zero, List.getElem?_cons_succ, List.set_cons_zero, List.set_cons_succ, List.map_cons, List.map_nil, List.cons_append, List.nil_append, List.append_nil, List.replicate, List.length_cons, List.length_nil, Nat.reduceAdd, Nat.reduceSub, Option.some.injEq, List.append_eq, Nat.zero_add, exists_eq', exists_eq_left', Sl.mu.injEq, Mu.l.injEq, Sl.sh.injEq, W.p.injEq, true_and, and_true, or_true, true_or, ite_true, ite_false, if_true, if_false, Bool.false_eq_true, decide_eq_true_eq]
    have go : Φ (.d (.bool (x.cps.toList.all inL))) → compW (wgName 1) wYes (wOp (oIn false) (wVar 1) (wC (W.d (PyData.str (Str.ofString "abcdefghijklmnopqrstuvwxyz"))))) (signs x)
        [Sl.sh (W.d (PyData.str x)), Sl.un] [] fun ds => oAnyAll (fun bs => bs.all id) [W.d (PyData.list ds)] Φ := fun z => by
      unfold signs
      refine compW_mp (g := fun c => PyData.bool (inL c)) x.cps.toList (fun c _ acc C k => ?_) ?_
      · simp only [wSeq2, wNext, wRet, wDrop, wIfS, wSet, wSetO, wSetN, wSetC, wSetIx, wSetI, wSetBx, wSetB, wAug, wApp, wAsg, wPar, wNilO, wConsO, wConsN, wL2N, putR, noUn, wVar, wC, wNil, wCons, wTup, wLst, wFz, wOp, wB, wAnd, wOr, wNot, wAndV, wOrV, wNotV, wIf, wNeg, wCB, wCL, wCallD, wRetB, wIsi, wSl, wNoPart, wPart, wRev, wFrz, wLend, wLendT, wLendL, muW, wFor, wSeq, wRange1, wRange2, wLc, wipeR, wgName, wgTup, wgCons, wgNil, startR, wJoin, wZip, wEnum, wEnumA, wDisp1, wDGet2, wBrk, wCnt, wIxOx, wIxO, wPopSet, wPopAt, wPopAtSet, popAtW, wExt, wSet2, xE, xT, xA, xCons, xTup, xLst, xFz, xOp, xB, xNot, xAnd, xOr, xSl, xCB, xCallD, xCallX, xCallL, xRet, xDrop, xIfS, xSet, xAsg, wRaise, wTry, wHandle, outPs, wXf, wXis, wChain, wCat, wLm, gCnt, ev_addI, ev_addS, ev_addT, ev_addL, ev_mulI, ev_I, ev_I0, ev_ltI, ev_ltS, ev_ge, ev_eqI, ev_eqS, ev_eqB, ev_p0, ev_p1, ev_p2, ev_lenL, ev_lenT, ev_lenS, ev_lenQ, ev_lenK, ev_tupL, ev_tupT, ev_lisL, ev_lisT, ev_intI, ev_intB, ev_max2, ev_min2, ev_repr, ev_reprB, ev_reprT, ev_eqRp, ev_slL, ev_slT, ev_slS, ev_seqL, ev_seqT, ev_seqS, ev_inL, ev_inT, ev_isB, ev_dO, ev_dat0, ev_dat1, ev_dat2, ev_dat3, ev_dat4, ev_dat5, ev_dat8, ev_i0, ev_i1, ev_i2, ev_l0, ev_l1, ev_l2, dats, List.zip_cons_cons, List.zip_nil_right, List.zip_nil_left, List.reverse_singleton, List.reverse_cons, List.reverse_nil, wYes, List.getElem?_cons_zero, List.getElem?_cons_succ, List.set_cons_zero, List.set_cons_succ, List.map_cons, List.map_nil, List.cons_append, List.nil_append, List.append_nil, List.replicate, List.length_cons, List.length_nil, Nat.reduceAdd, Nat.reduceSub, Option.some.injEq, List.append_eq, Nat.zero_add, exists_eq', exists_eq_left', Sl.mu.injEq, Mu.l.injEq, Sl.sh.injEq, W.p.injEq, true_and, and_true, or_true, true_or, ite_true, ite_false, if_true, if_false, Bool.false_eq_true, decide_eq_true_eq, oIn, Bool.false_bne]
        unfold inL letters at k
        exact k
      · have e : x.cps.toList.map (fun c => PyData.bool (inL c)) = (x.cps.toList.map inL).map PyData.bool := by rw [List.map_map]; rfl
        rw [e]
        refine r_all ?_
        rw [List.all_map]
        exact z
    have e : isNameD (.str x) = isNameS x := rfl
    rw [e] at q
    unfold isNameS at q
    by_cases h1 : 1 ≤ x.length
    · rw [if_pos (by omega)]
      by_cases h2 : x.length ≤ 6
      · rw [decide_eq_true h1, decide_eq_true h2] at q
        rw [decide_eq_true (show (x.length : Int) ≤ 6 by omega), if_neg (by decide)]
        exact go q
      · rw [decide_eq_false h2, Bool.and_false, Bool.false_and] at q
        rw [decide_eq_false (show ¬ (x.length : Int) ≤ 6 by omega), if_pos (by decide)]
        exact q
    · rw [decide_eq_false h1, Bool.false_and, Bool.false_and] at q
      rw [if_neg (by omega), if_pos (by decide)]
      exact q
  | _ =>
    simp only [isD, Bool.not_false, wSeq2, wNext, wRet, wDrop, wIfS, wSet, wSetO, wSetN, wSetC, wSetIx, wSetI, wSetBx, wSetB, wAug, wApp, wAsg, wPar, wNilO, wConsO, wConsN, wL2N, putR, noUn, wVar, wC, wNil, wCons, wTup, wLst, wFz, wOp, wB, wAnd, wOr, wNot, wAndV, wOrV, wNotV, wIf, wNeg, wCB, wCL, wCallD, wRetB, wIsi, wSl, wNoPart, wPart, wRev, wFrz, wLend, wLendT, wLendL, muW, wFor, wSeq, wRange1, wRange2, wLc, wipeR, wgName, wgTup, wgCons, wgNil, startR, wJoin, wZip, wEnum, wEnumA, wDisp1, wDGet2, wBrk, wCnt, wIxOx, wIxO, wPopSet, wPopAt, wPopAtSet, popAtW, wExt, wSet2, xE, xT, xA, xCons, xTup, xLst, xFz, xOp, xB, xNot, xAnd, xOr, xSl, xCB, xCallD, xCallX, xCallL, xRet, xDrop, xIfS, xSet, xAsg, wRaise, wTry, wHandle, outPs, wXf, wXis, wChain, wCat, wLm, gCnt, ev_addI, ev_addS, ev_addT, ev_addL, ev_mulI, ev_I, ev_I0, ev_ltI, ev_ltS, ev_ge, ev_eqI, ev_eqS, ev_eqB, ev_p0, ev_p1, ev_p2, ev_lenL, ev_lenT, ev_lenS, ev_lenQ, ev_lenK, ev_tupL, ev_tupT, ev_lisL, ev_lisT, ev_intI, ev_intB, ev_max2, ev_min2, ev_repr, ev_reprB, ev_reprT, ev_eqRp, ev_slL, ev_slT, ev_slS, ev_seqL, ev_seqT, ev_seqS, ev_inL, ev_inT, ev_isB, ev_dO, ev_dat0, ev_dat1, ev_dat2, ev_dat3, ev_dat4, ev_dat5, ev_dat8, ev_i0, ev_i1, ev_i2, ev_l0, ev_l1, ev_l2, dats, List.zip_cons_cons, List.zip_nil_right, List.zip_nil_left, List.reverse_singleton, List.reverse_cons, List.reverse_nil, wYes, List.getElem?_cons_zero, List.getElem?_cons_succ, List.set_cons_zero, List.set_cons_succ, List.map_cons, List.map_nil, List.cons_append, List.nil_append, List.append_nil, List.replicate, List.length_cons, List.length_nil, Nat.reduceAdd, Nat.reduceSub, Option.some.injEq, List.append_eq, Nat.zero_add, exists_eq', exists_eq_left', Sl.mu.injEq, Mu.l.injEq, Sl.sh.injEq, W.p.injEq, true_and, and_true, or_true, true_or, ite_true, ite_false, if_true, if_false, Bool.false_eq_true, decide_eq_true_eq]
    exact q
def F_are_strings : FW := fun ws Φ => ∃ d n, ws = [.d d, .d (.int n)] ∧ Φ (.d (.bool (match d with
  | .tuple xs => decide ((xs.length : Int) = n) && (strsD xs).isSome
  | _ => false)))
theorem l_are_strings (ws : List W) (Φ : W → Prop) (h : F_are_strings ws Φ) : ws.length = 2 := by
  obtain ⟨_, _, rfl, _⟩ := h
  rfl
theorem m_are_strings (ws : List W) (Φ : W → Prop) (h : F_are_strings ws Φ) : w_are_strings (startR n_are_strings ws) ⟨fun _ => Φ (.d .none), Φ, fun _ => False, fun _ => False, fun _ _ => False⟩ := by
  obtain ⟨d, n, rfl, q⟩ := h
  simp only [w_are_strings, n_are_strings, wSeq2, wNext, wRet, wDrop, wIfS, wSet, wSetO, wSetN, wSetC, wSetIx, wSetI, wSetBx, wSetB, wAug, wApp, wAsg, wPar, wNilO, wConsO, wConsN, wL2N, putR, noUn, wVar, wC, wNil, wCons, wTup, wLst, wFz, wOp, wB, wAnd, wOr, wNot, wAndV, wOrV, wNotV, wIf, wNeg, wCB, wCL, wCallD, wRetB, wIsi, wSl, wNoPart, wPart, wRev, wFrz, wLend, wLendT, wLendL, muW, wFor, wSeq, wRange1, wRange2, wLc, wipeR, wgName, wgTup, wgCons, wgNil, startR, wJoin, wZip, wEnum, wEnumA, wDisp1, wDGet2, wBrk, wCnt, wIxOx, wIxO, wPopSet, wPopAt, wPopAtSet, popAtW, wExt, wSet2, xE, xT, xA, xCons, xTup, xLst, xFz, xOp, xB, xNot, xAnd, xOr, xSl, xCB, xCallD, xCallX, xCallL, xRet, xDrop, xIfS, xSet, xAsg, wRaise, wTry, wHandle, outPs, wXf, wXis, wChain, wCat, wLm, gCnt, ev_addI, ev_addS, ev_addT, ev_addL, ev_mulI, ev_I, ev_I0, ev_ltI, ev_ltS, ev_ge, ev_eqI, ev_eqS, ev_eqB, ev_p0, ev_p1, ev_p2, ev_lenL, ev_lenT, ev_lenS, ev_lenQ, ev_lenK, ev_tupL, ev_tupT, ev_lisL, ev_lisT, ev_intI, ev_intB, ev_max2, ev_min2, ev_repr, ev_reprB, ev_reprT, ev_eqRp, ev_slL, ev_slT, ev_slS, ev_seqL, ev_seqT, ev_seqS, ev_inL, ev_inT, ev_isB, ev_dO, ev_dat0, ev_dat1, ev_dat2, ev_dat3, ev_dat4, ev_dat5, ev_dat8, ev_i0, ev_i1, ev_i2, ev_l0, ev_l1, ev_l2, dats, List.zip_cons_cons, List.zip_nil_right, List.zip_nil_left, List.reverse_singleton, List.reverse_cons, List.reverse_nil, wYes, List.getElem?_cons_zero, List.getElem?_cons_succ, List.set_cons_zero, List.set_cons_succ, List.map_cons, List.map_nil, List.cons_append, List.nil_append, List.append_nil, List.replicate, List.length_cons, List.length_nil, Nat.reduceAdd, Nat.reduceSub, Option.some.injEq, List.append_eq, Nat.zero_add, exists_eq', exists_eq_left', Sl.mu.injEq, Mu.l.injEq, Sl.sh.injEq, W.p.injEq, true_and, and_true, or_true, true_or, ite_true, ite_false, if_true, if_false, Bool.false_eq_true, decide_eq_true_eq, List.any_cons, List.any_nil, Bool.or_false]
  cases d with
  | tuple xs =>
    simp only [isD, wSeq2, wNext, wRet, wDrop, wIfS, wSet, wSetO, wSetN, wSetC, wSetIx, wSetI, wSetBx, wSetB, wAug, wApp, wAsg, wPar, wNilO, wConsO, wConsN, wL2N, putR, noUn, wVar, wC, wNil, wCons, wTup, wLst, wFz, wOp, wB, wAnd, wOr, wNot, wAndV, wOrV, wNotV, wIf, wNeg, wCB, wCL, wCallD, wRetB, wIsi, wSl, wNoPart, wPart, wRev, wFrz, wLend, wLendT, wLendL, muW, wFor, wSeq, wRange1, wRange2, wLc, wipeR, wgName, wgTup, wgCons, wgNil, startR, wJoin, wZip, wEnum, wEnumA, wDisp1, wDGet2, wBrk, wCnt, wIxOx, wIxO, wPopSet, wPopAt, wPopAtSet, popAtW, wExt, wSet2, xE, xT, xA, xCons, xTup, xLst, xFz, xOp, xB, xNot, xAnd, xOr, xSl, xCB, xCallD, xCallX, xCallL, xRet, xDrop, xIfS, xSet, xAsg, wRaise, wTry, wHandle, outPs, wXf, wXis, wChain, wCat, wLm, gCnt, ev_addI, ev_addS, ev_addT, ev_addL, ev_mulI, ev_I, ev_I0, ev_ltI, ev_ltS, ev_ge, ev_eqI, ev_eqS, ev_eqB, ev_p0, ev_p1, ev_p2, ev_lenL, ev_lenT, ev_lenS, ev_lenQ, ev_lenK, ev_tupL, ev_tupT, ev_lisL, ev_lisT, ev_intI, ev_intB, ev_max2, ev_min2, ev_repr, ev_reprB, ev_reprT, ev_eqRp, ev_slL, ev_slT, ev_slS, ev_seqL, ev_seqT, ev_seqS, ev_inL, ev_inT, ev_isB, ev_dO, ev_dat0, ev_dat1, ev_dat2, ev_dat3, ev_dat4, ev_dat5, ev_dat8, ev_i0, ev_i1, ev_i2, ev_l0, ev_l1, ev_l2, dats, List.zip_cons_cons, List.zip_nil_right, List.zip_nil_left, List.reverse_singleton, List.reverse_cons, List.reverse_nil, wYes, List.getElem?_cons_zero, List.getElem?_cons_succ, List.set_cons_zero, List.set_cons_succ, List.map_cons, List.map_nil, List.cons_append, List.nil_append, List.append_nil, List.replicate, List.length_cons, List.length_nil, Nat.reduceAdd, Nat.reduceSub, Option.some.injEq, List.append_eq, Nat.zero_add, exists_eq', exists_eq_left', Sl.mu.injEq, Mu.l.injEq, Sl.sh.injEq, W.p.injEq, true_and, and_true, or_true, true_or, ite_true, ite_false, if_true, if_false, Bool.false_eq_true, decide_eq_true_eq]
    by_cases hn : (xs.length : Int) = n
    · rw [if_pos (by rw [hn]; simp)]
      have e : decide ((xs.length : Int) = n) = true := decide_eq_true hn
      simp only [e, Bool.true_and] at q
      refine compW_ds (g := fun d => PyData.bool (isD d .str)) xs (fun d _ acc C k => ?_) ?_
      · simp only [wSeq2, wNext, wRet, wDrop, wIfS, wSet, wSetO, wSetN, wSetC, wSetIx, wSetI, wSetBx, wSetB, wAug, wApp, wAsg, wPar, wNilO, wConsO, wConsN, wL2N, putR, noUn, wVar, wC, wNil, wCons, wTup, wLst, wFz, wOp, wB, wAnd, wOr, wNot, wAndV, wOrV, wNotV, wIf, wNeg, wCB, wCL, wCallD, wRetB, wIsi, wSl, wNoPart, wPart, wRev, wFrz, wLend, wLendT, wLendL, muW, wFor, wSeq, wRange1, wRange2, wLc, wipeR, wgName, wgTup, wgCons, wgNil, startR, wJoin, wZip, wEnum, wEnumA, wDisp1, wDGet2, wBrk, wCnt, wIxOx, wIxO, wPopSet, wPopAt, wPopAtSet, popAtW, wExt, wSet2, xE, xT, xA, xCons, xTup, xLst, xFz, xOp, xB, xNot, xAnd, xOr, xSl, xCB, xCallD, xCallX, xCallL, xRet, xDrop, xIfS, xSet, xAsg, wRaise, wTry, wHandle, outPs, wXf, wXis, wChain, wCat, wLm, gCnt, ev_addI, ev_addS, ev_addT, ev_addL, ev_mulI, ev_I, ev_I0, ev_ltI, ev_ltS, ev_ge, ev_eqI, ev_eqS, ev_eqB, ev_p0, ev_p1, ev_p2, ev_lenL, ev_lenT, ev_lenS, ev_lenQ, ev_lenK, ev_tupL, ev_tupT, ev_lisL, ev_lisT, ev_intI, ev_intB, ev_max2, ev_min2, ev_repr, ev_reprB, ev_reprT, ev_eqRp, ev_slL, ev_slT, ev_slS, ev_seqL, ev_seqT, ev_seqS, ev_inL, ev_inT, ev_isB, ev_dO, ev_dat0, ev_dat1, ev_dat2, ev_dat3, ev_dat4, ev_dat5, ev_dat8, ev_i0, ev_i1, ev_i2, ev_l0, ev_l1, ev_l2, dats, List.zip_cons_cons, List.zip_nil_right, List.zip_nil_left, List.reverse_singleton, List.reverse_cons, List.reverse_nil, wYes, List.getElem?_cons_zero, List.getElem?_cons_succ, List.set_cons_zero, List.set_cons_succ, List.map_cons, List.map_nil, List.cons_append, List.nil_append, List.append_nil, List.replicate, List.length_cons, List.length_nil, Nat.reduceAdd, Nat.reduceSub, Option.some.injEq, List.append_eq, Nat.zero_add, exists_eq', exists_eq_left', Sl.mu.injEq, Mu.l.injEq, Sl.sh.injEq, W.p.injEq, true_and, and_true, or_true, true_or, ite_true, ite_false, if_true, if_false, Bool.false_eq_true, decide_eq_true_eq, List.any_cons, List.any_nil, Bool.or_false]
        exact k
      · have e : xs.map (fun d => PyData.bool (isD d .str)) = (xs.map fun d => isD d .str).map PyData.bool := by rw [List.map_map]; rfl
        rw [e]
        refine r_all ?_
        rw [all_isStr]
        exact q
    · rw [if_neg (by simpa using hn)]
      have e : decide ((xs.length : Int) = n) = false := decide_eq_false hn
      simp only [e, Bool.false_and] at q
      exact q
  | _ =>
    simp only [isD, wSeq2, wNext, wRet, wDrop, wIfS, wSet, wSetO, wSetN, wSetC, wSetIx, wSetI, wSetBx, wSetB, wAug, wApp, wAsg, wPar, wNilO, wConsO, wConsN, wL2N, putR, noUn, wVar, wC, wNil, wCons, wTup, wLst, wFz, wOp, wB, wAnd, wOr, wNot, wAndV, wOrV, wNotV, wIf, wNeg, wCB, wCL, wCallD, wRetB, wIsi, wSl, wNoPart, wPart, wRev, wFrz, wLend, wLendT, wLendL, muW, wFor, wSeq, wRange1, wRange2, wLc, wipeR, wgName, wgTup, wgCons, wgNil, startR, wJoin, wZip, wEnum, wEnumA, wDisp1, wDGet2, wBrk, wCnt, wIxOx, wIxO, wPopSet, wPopAt, wPopAtSet, popAtW, wExt, wSet2, xE, xT, xA, xCons, xTup, xLst, xFz, xOp, xB, xNot, xAnd, xOr, xSl, xCB, xCallD, xCallX, xCallL, xRet, xDrop, xIfS, xSet, xAsg, wRaise, wTry, wHandle, outPs, wXf, wXis, wChain, wCat, wLm, gCnt, ev_addI, ev_addS, ev_addT, ev_addL, ev_mulI, ev_I, ev_I0, ev_ltI, ev_ltS, ev_ge, ev_eqI, ev_eqS, ev_eqB, ev_p0, ev_p1, ev_p2, ev_lenL, ev_lenT, ev_lenS, ev_lenQ, ev_lenK, ev_tupL, ev_tupT, ev_lisL, ev_lisT, ev_intI, ev_intB, ev_max2, ev_min2, ev_repr, ev_reprB, ev_reprT, ev_eqRp, ev_slL, ev_slT, ev_slS, ev_seqL, ev_seqT, ev_seqS, ev_inL, ev_inT, ev_isB, ev_dO, ev_dat0, ev_dat1, ev_dat2, ev_dat3, ev_dat4, ev_dat5, ev_dat8, ev_i0, ev_i1, ev_i2, ev_l0, ev_l1, ev_l2, dats, List.zip_cons_cons, List.zip_nil_right, List.zip_nil_left, List.reverse_singleton, List.reverse_cons, List.reverse_nil, wYes, List.getElem?_cons_zero, List.getElem?_cons_succ, List.set_cons_zero, List.set_cons_succ, List.map_cons, List.map_nil, List.cons_append, List.nil_append, List.append_nil, List.replicate, List.length_cons, List.length_nil, Nat.reduceAdd, Nat.reduceSub, Option.some.injEq, List.append_eq, Nat.zero_add, exists_eq', exists_eq_left', Sl.mu.injEq, Mu.l.injEq, Sl.sh.injEq, W.p.injEq, true_and, and_true, or_true, true_or, ite_true, ite_false, if_true, if_false, Bool.false_eq_true, decide_eq_true_eq]
    exact q
def F_has_form : FW := fun ws Φ => ∃ d, ws = [.d d] ∧ Φ (.d (.bool (formOf d).isSome))
theorem l_has_form (ws : List W) (Φ : W → Prop) (h : F_has_form ws Φ) : ws.length = 1 := by
  obtain ⟨_, rfl, _⟩ := h
  rfl
theorem m_has_form (ws : List W) (Φ : W → Prop) (h : F_has_form ws Φ) : w_has_form F_are_strings (startR n_has_form ws) ⟨fun _ => Φ (.d .none), Φ, fun _ => False, fun _ => False, fun _ _ => False⟩ := by
  obtain ⟨d, rfl, q⟩ := h
  simp only [w_has_form, n_has_form, wSeq2, wNext, wRet, wDrop, wIfS, wSet, wSetO, wSetN, wSetC, wSetIx, wSetI, wSetBx, wSetB, wAug, wApp, wAsg, wPar, wNilO, wConsO, wConsN, wL2N, putR, noUn, wVar, wC, wNil, wCons, wTup, wLst, wFz, wOp, wB, wAnd, wOr, wNot, wAndV, wOrV, wNotV, wIf, wNeg, wCB, wCL, wCallD, wRetB, wIsi, wSl, wNoPart, wPart, wRev, wFrz, wLend, wLendT, wLendL, muW, wFor, wSeq, wRange1, wRange2, wLc, wipeR, wgName, wgTup, wgCons, wgNil, startR, wJoin, wZip, wEnum, wEnumA, wDisp1, wDGet2, wBrk, wCnt, wIxOx, wIxO, wPopSet, wPopAt, wPopAtSet, popAtW, wExt, wSet2, xE, xT, xA, xCons, xTup, xLst, xFz, xOp, xB, xNot, xAnd, xOr, xSl, xCB, xCallD, xCallX, xCallL, xRet, xDrop, xIfS, xSet, xAsg, wRaise, wTry, wHandle, outPs, wXf, wXis, wChain, wCat, wLm, gCnt, ev_addI, ev_addS, ev_addT, ev_addL, ev_mulI, ev_I, ev_I0, ev_ltI, ev_ltS, ev_ge, ev_eqI, ev_eqS, ev_eqB, ev_p0, ev_p1, ev_p2, ev_lenL, ev_lenT, ev_lenS, ev_lenQ, ev_lenK, ev_tupL, ev_tupT, ev_lisL, ev_lisT, ev_intI, ev_intB, ev_max2, ev_min2, ev_repr, ev_reprB, ev_reprT, ev_eqRp, ev_slL, ev_slT, ev_slS, ev_seqL, ev_seqT, ev_seqS, ev_inL, ev_inT, ev_isB, ev_dO, ev_dat0, ev_dat1, ev_dat2, ev_dat3, ev_dat4, ev_dat5, ev_dat8, ev_i0, ev_i1, ev_i2, ev_l0, ev_l1, ev_l2, dats, List.zip_cons_cons, List.zip_nil_right, List.zip_nil_left, List.reverse_singleton, List.reverse_cons, List.reverse_nil, wYes, List.getElem?_cons_zero, List.getElem?_cons_succ, List.set_cons_zero, List.set_cons_succ, List.map_cons, List.map_nil, List.cons_append, List.nil_append, List.append_nil, List.replicate, List.length_cons, List.length_nil, Nat.reduceAdd, Nat.reduceSub, Option.some.injEq, List.append_eq, Nat.zero_add, exists_eq', exists_eq_left', Sl.mu.injEq, Mu.l.injEq, Sl.sh.injEq, W.p.injEq, true_and, and_true, or_true, true_or, ite_true, ite_false, if_true, if_false, Bool.false_eq_true, decide_eq_true_eq, List.any_cons, List.any_nil, Bool.or_false]
  cases d with
  | tuple xs =>
    simp only [isD, Bool.not_true, wSeq2, wNext, wRet, wDrop, wIfS, wSet, wSetO, wSetN, wSetC, wSetIx, wSetI, wSetBx, wSetB, wAug, wApp, wAsg, wPar, wNilO, wConsO, wConsN, wL2N, putR, noUn, wVar, wC, wNil, wCons, wTup, wLst, wFz, wOp, wB, wAnd, wOr, wNot, wAndV, wOrV, wNotV, wIf, wNeg, wCB, wCL, wCallD, wRetB, wIsi, wSl, wNoPart, wPart, wRev, wFrz, wLend, wLendT, wLendL, muW, wFor, wSeq, wRange1, wRange2, wLc, wipeR, wgName, wgTup, wgCons, wgNil, startR, wJoin, wZip, wEnum, wEnumA, wDisp1, wDGet2, wBrk, wCnt, wIxOx, wIxO, wPopSet, wPopAt, wPopAtSet, popAtW, wExt, wSet2, xE, xT, xA, xCons, xTup, xLst, xFz, xOp, xB, xNot, xAnd, xOr, xSl, xCB, xCallD, xCallX, xCallL, xRet, xDrop, xIfS, xSet, xAsg, wRaise, wTry, wHandle, outPs, wXf, wXis, wChain, wCat, wLm, gCnt, ev_addI, ev_addS, ev_addT, ev_addL, ev_mulI, ev_I, ev_I0, ev_ltI, ev_ltS, ev_ge, ev_eqI, ev_eqS, ev_eqB, ev_p0, ev_p1, ev_p2, ev_lenL, ev_lenT, ev_lenS, ev_lenQ, ev_lenK, ev_tupL, ev_tupT, ev_lisL, ev_lisT, ev_intI, ev_intB, ev_max2, ev_min2, ev_repr, ev_reprB, ev_reprT, ev_eqRp, ev_slL, ev_slT, ev_slS, ev_seqL, ev_seqT, ev_seqS, ev_inL, ev_inT, ev_isB, ev_dO, ev_dat0, ev_dat1, ev_dat2, ev_dat3, ev_dat4, ev_dat5, ev_dat8, ev_i0, ev_i1, ev_i2, ev_l0, ev_l1, ev_l2, dats, List.zip_cons_cons, List.zip_nil_right, List.zip_nil_left, List.reverse_singleton, List.reverse_cons, List.reverse_nil, wYes, List.getElem?_cons_zero, List.getElem?_cons_succ, List.set_cons_zero, List.set_cons_succ, List.map_cons, List.map_nil, List.cons_append, List.nil_append, List.append_nil, List.replicate, List.length_cons, List.length_nil, Nat.reduceAdd, Nat.reduceSub, Option.some.injEq, List.append_eq, Nat.zero_add, exists_eq', exists_eq_left', Sl.mu.injEq, Mu.l.injEq, Sl.sh.injEq, W.p.injEq, true_and, and_true, or_true, true_or, ite_true, ite_false, if_true, if_false, Bool.false_eq_true, decide_eq_true_eq, ev_eqI]
    by_cases h2 : xs.length = 2
    · rw [if_neg (by rw [h2]; decide)]
      obtain ⟨a, b, rfl⟩ : ∃ a b, xs = [a, b] := by
        match xs, h2 with
        | [a, b], _ => exact ⟨a, b, rfl⟩
      refine compW_ds (g := fun d => PyData.bool (isD d .tuple)) [a, b] (fun d _ acc C k => ?_) ?_
      · simp only [wSeq2, wNext, wRet, wDrop, wIfS, wSet, wSetO, wSetN, wSetC, wSetIx, wSetI, wSetBx, wSetB, wAug, wApp, wAsg, wPar, wNilO, wConsO, wConsN, wL2N, putR, noUn, wVar, wC, wNil, wCons, wTup, wLst, wFz, wOp, wB, wAnd, wOr, wNot, wAndV, wOrV, wNotV, wIf, wNeg, wCB, wCL, wCallD, wRetB, wIsi, wSl, wNoPart, wPart, wRev, wFrz, wLend, wLendT, wLendL, muW, wFor, wSeq, wRange1, wRange2, wLc, wipeR, wgName, wgTup, wgCons, wgNil, startR, wJoin, wZip, wEnum, wEnumA, wDisp1, wDGet2, wBrk, wCnt, wIxOx, wIxO, wPopSet, wPopAt, wPopAtSet, popAtW, wExt, wSet2, xE, xT, xA, xCons, xTup, xLst, xFz, xOp, xB, xNot, xAnd, xOr, xSl, xCB, xCallD, xCallX, xCallL, xRet, xDrop, xIfS, xSet, xAsg, wRaise, wTry, wHandle, outPs, wXf, wXis, wChain, wCat, wLm, gCnt, ev_addI, ev_addS, ev_addT, ev_addL, ev_mulI, ev_I, ev_I0, ev_ltI, ev_ltS, ev_ge, ev_eqI, ev_eqS, ev_eqB, ev_p0, ev_p1, ev_p2, ev_lenL, ev_lenT, ev_lenS, ev_lenQ, ev_lenK, ev_tupL, ev_tupT, ev_lisL, ev_lisT, ev_intI, ev_intB, ev_max2, ev_min2, ev_repr, ev_reprB, ev_reprT, ev_eqRp, ev_slL, ev_slT, ev_slS, ev_seqL, ev_seqT, ev_seqS, ev_inL, ev_inT, ev_isB, ev_dO, ev_dat0, ev_dat1, ev_dat2, ev_dat3, ev_dat4, ev_dat5, ev_dat8, ev_i0, ev_i1, ev_i2, ev_l0, ev_l1, ev_l2, dats, List.zip_cons_cons, List.zip_nil_right, List.zip_nil_left, List.reverse_singleton, List.reverse_cons, List.reverse_nil, wYes, List.getElem?_cons_zero, List.getElem?_cons_succ, List.set_cons_zero, List.set_cons_succ, List.map_cons, List.map_nil, List.cons_append, List.nil_append, List.append_nil, List.replicate, List.length_cons, List.length_nil, Nat.reduceAdd, Nat.reduceSub, Option.some.injEq, List.append_eq, Nat.zero_add, exists_eq', exists_eq_left', Sl.mu.injEq, Mu.l.injEq, Sl.sh.injEq, W.p.injEq, true_and, and_true, or_true, true_or, ite_true, ite_false, if_true, if_false, Bool.false_eq_true, decide_eq_true_eq, List.any_cons, List.any_nil, Bool.or_false]
        exact k
      have e : [a, b].map (fun d => PyData.bool (isD d .tuple)) = [isD a .tuple, isD b .tuple].map PyData.bool := rfl
      rw [e]
      refine r_all ?_
      simp only [List.all_cons, List.all_nil, Bool.and_true, id]
      cases a with
      | tuple rs =>
        cases b with
        | tuple ds =>
          simp only [isD, Bool.and_self, Bool.not_true, wSeq2, wNext, wRet, wDrop, wIfS, wSet, wSetO, wSetN, wSetC, wSetIx, wSetI, wSetBx, wSetB, wAug, wApp, wAsg, wPar, wNilO, wConsO, wConsN, wL2N, putR, noUn, wVar, wC, wNil, wCons, wTup, wLst, wFz, wOp, wB, wAnd, wOr, wNot, wAndV, wOrV, wNotV, wIf, wNeg, wCB, wCL, wCallD, wRetB, wIsi, wSl, wNoPart, wPart, wRev, wFrz, wLend, wLendT, wLendL, muW, wFor, wSeq, wRange1, wRange2, wLc, wipeR, wgName, wgTup, wgCons, wgNil, startR, wJoin, wZip, wEnum, wEnumA, wDisp1, wDGet2, wBrk, wCnt, wIxOx, wIxO, wPopSet, wPopAt, wPopAtSet, popAtW, wExt, wSet2, xE, xT, xA, xCons, xTup, xLst, xFz, xOp, xB, xNot, xAnd, xOr, xSl, xCB, xCallD, xCallX, xCallL, xRet, xDrop, xIfS, xSet, xAsg, wRaise, wTry, wHandle, outPs, wXf, wXis, wChain, wCat, wLm, gCnt, ev_addI, ev_addS, ev_addT, ev_addL, ev_mulI, ev_I, ev_I0, ev_ltI, ev_ltS, ev_ge, ev_eqI, ev_eqS, ev_eqB, ev_p0, ev_p1, ev_p2, ev_lenL, ev_lenT, ev_lenS, ev_lenQ, ev_lenK, ev_tupL, ev_tupT, ev_lisL, ev_lisT, ev_intI, ev_intB, ev_max2, ev_min2, ev_repr, ev_reprB, ev_reprT, ev_eqRp, ev_slL, ev_slT, ev_slS, ev_seqL, ev_seqT, ev_seqS, ev_inL, ev_inT, ev_isB, ev_dO, ev_dat0, ev_dat1, ev_dat2, ev_dat3, ev_dat4, ev_dat5, ev_dat8, ev_i0, ev_i1, ev_i2, ev_l0, ev_l1, ev_l2, dats, List.zip_cons_cons, List.zip_nil_right, List.zip_nil_left, List.reverse_singleton, List.reverse_cons, List.reverse_nil, wYes, List.getElem?_cons_zero, List.getElem?_cons_succ, List.set_cons_zero, List.set_cons_succ, List.map_cons, List.map_nil, List.cons_append, List.nil_append, List.append_nil, List.replicate, List.length_cons, List.length_nil, Nat.reduceAdd, Nat.reduceSub, Option.some.injEq, List.append_eq, Nat.zero_add, exists_eq', exists_eq_left', Sl.mu.injEq, Mu.l.injEq, Sl.sh.injEq, W.p.injEq, true_and, and_true, or_true, true_or, ite_true, ite_false, if_true, if_false, Bool.false_eq_true, decide_eq_true_eq]
          refine ⟨_, _, rfl, ?_⟩
          simp only [decide_true, Bool.true_and]
          have ef : formOf (.tuple [.tuple rs, .tuple ds]) = (match strsD rs, doorsOf ds with
            | some r, some d => some (r, d)
            | _, _ => none) := rfl
          rw [ef] at q
          cases hr : strsD rs with
          | none =>
            rw [hr] at q
            exact q
          | some rs' =>
            rw [hr] at q
            simp only [Option.isSome_some, wSeq2, wNext, wRet, wDrop, wIfS, wSet, wSetO, wSetN, wSetC, wSetIx, wSetI, wSetBx, wSetB, wAug, wApp, wAsg, wPar, wNilO, wConsO, wConsN, wL2N, putR, noUn, wVar, wC, wNil, wCons, wTup, wLst, wFz, wOp, wB, wAnd, wOr, wNot, wAndV, wOrV, wNotV, wIf, wNeg, wCB, wCL, wCallD, wRetB, wIsi, wSl, wNoPart, wPart, wRev, wFrz, wLend, wLendT, wLendL, muW, wFor, wSeq, wRange1, wRange2, wLc, wipeR, wgName, wgTup, wgCons, wgNil, startR, wJoin, wZip, wEnum, wEnumA, wDisp1, wDGet2, wBrk, wCnt, wIxOx, wIxO, wPopSet, wPopAt, wPopAtSet, popAtW, wExt, wSet2, xE, xT, xA, xCons, xTup, xLst, xFz, xOp, xB, xNot, xAnd, xOr, xSl, xCB, xCallD, xCallX, xCallL, xRet, xDrop, xIfS, xSet, xAsg, wRaise, wTry, wHandle, outPs, wXf, wXis, wChain, wCat, wLm, gCnt, ev_addI, ev_addS, ev_addT, ev_addL, ev_mulI, ev_I, ev_I0, ev_ltI, ev_ltS, ev_ge, ev_eqI, ev_eqS, ev_eqB, ev_p0, ev_p1, ev_p2, ev_lenL, ev_lenT, ev_lenS, ev_lenQ, ev_lenK, ev_tupL, ev_tupT, ev_lisL, ev_lisT, ev_intI, ev_intB, ev_max2, ev_min2, ev_repr, ev_reprB, ev_reprT, ev_eqRp, ev_slL, ev_slT, ev_slS, ev_seqL, ev_seqT, ev_seqS, ev_inL, ev_inT, ev_isB, ev_dO, ev_dat0, ev_dat1, ev_dat2, ev_dat3, ev_dat4, ev_dat5, ev_dat8, ev_i0, ev_i1, ev_i2, ev_l0, ev_l1, ev_l2, dats, List.zip_cons_cons, List.zip_nil_right, List.zip_nil_left, List.reverse_singleton, List.reverse_cons, List.reverse_nil, wYes, List.getElem?_cons_zero, List.getElem?_cons_succ, List.set_cons_zero, List.set_cons_succ, List.map_cons, List.map_nil, List.cons_append, List.nil_append, List.append_nil, List.replicate, List.length_cons, List.length_nil, Nat.reduceAdd, Nat.reduceSub, Option.some.injEq, List.append_eq, Nat.zero_add, exists_eq', exists_eq_left', Sl.mu.injEq, Mu.l.injEq, Sl.sh.injEq, W.p.injEq, true_and, and_true, or_true, true_or, ite_true, ite_false, if_true, if_false, Bool.false_eq_true, decide_eq_true_eq]
            refine compW_ds (g := fun d => PyData.bool (isStrs3 d)) ds (fun d _ acc C k => ?_) ?_
            · simp only [wSeq2, wNext, wRet, wDrop, wIfS, wSet, wSetO, wSetN, wSetC, wSetIx, wSetI, wSetBx, wSetB, wAug, wApp, wAsg, wPar, wNilO, wConsO, wConsN, wL2N, putR, noUn, wVar, wC, wNil, wCons, wTup, wLst, wFz, wOp, wB, wAnd, wOr, wNot, wAndV, wOrV, wNotV, wIf, wNeg, wCB, wCL, wCallD, wRetB, wIsi, wSl, wNoPart, wPart, wRev, wFrz, wLend, wLendT, wLendL, muW, wFor, wSeq, wRange1, wRange2, wLc, wipeR, wgName, wgTup, wgCons, wgNil, startR, wJoin, wZip, wEnum, wEnumA, wDisp1, wDGet2, wBrk, wCnt, wIxOx, wIxO, wPopSet, wPopAt, wPopAtSet, popAtW, wExt, wSet2, xE, xT, xA, xCons, xTup, xLst, xFz, xOp, xB, xNot, xAnd, xOr, xSl, xCB, xCallD, xCallX, xCallL, xRet, xDrop, xIfS, xSet, xAsg, wRaise, wTry, wHandle, outPs, wXf, wXis, wChain, wCat, wLm, gCnt, ev_addI, ev_addS, ev_addT, ev_addL, ev_mulI, ev_I, ev_I0, ev_ltI, ev_ltS, ev_ge, ev_eqI, ev_eqS, ev_eqB, ev_p0, ev_p1, ev_p2, ev_lenL, ev_lenT, ev_lenS, ev_lenQ, ev_lenK, ev_tupL, ev_tupT, ev_lisL, ev_lisT, ev_intI, ev_intB, ev_max2, ev_min2, ev_repr, ev_reprB, ev_reprT, ev_eqRp, ev_slL, ev_slT, ev_slS, ev_seqL, ev_seqT, ev_seqS, ev_inL, ev_inT, ev_isB, ev_dO, ev_dat0, ev_dat1, ev_dat2, ev_dat3, ev_dat4, ev_dat5, ev_dat8, ev_i0, ev_i1, ev_i2, ev_l0, ev_l1, ev_l2, dats, List.zip_cons_cons, List.zip_nil_right, List.zip_nil_left, List.reverse_singleton, List.reverse_cons, List.reverse_nil, wYes, List.getElem?_cons_zero, List.getElem?_cons_succ, List.set_cons_zero, List.set_cons_succ, List.map_cons, List.map_nil, List.cons_append, List.nil_append, List.append_nil, List.replicate, List.length_cons, List.length_nil, Nat.reduceAdd, Nat.reduceSub, Option.some.injEq, List.append_eq, Nat.zero_add, exists_eq', exists_eq_left', Sl.mu.injEq, Mu.l.injEq, Sl.sh.injEq, W.p.injEq, true_and, and_true, or_true, true_or, ite_true, ite_false, if_true, if_false, Bool.false_eq_true, decide_eq_true_eq]
              exact ⟨d, 3, rfl, k⟩
            · have e : ds.map (fun d => PyData.bool (isStrs3 d)) = (ds.map isStrs3).map PyData.bool := by rw [List.map_map]; rfl
              rw [e]
              refine r_all ?_
              rw [all_door]
              cases hd : doorsOf ds with
              | none => rw [hd] at q; exact q
              | some ds' => rw [hd] at q; exact q
        | _ =>
          simp only [isD, Bool.and_false, Bool.not_false, wSeq2, wNext, wRet, wDrop, wIfS, wSet, wSetO, wSetN, wSetC, wSetIx, wSetI, wSetBx, wSetB, wAug, wApp, wAsg, wPar, wNilO, wConsO, wConsN, wL2N, putR, noUn, wVar, wC, wNil, wCons, wTup, wLst, wFz, wOp, wB, wAnd, wOr, wNot, wAndV, wOrV, wNotV, wIf, wNeg, wCB, wCL, wCallD, wRetB, wIsi, wSl, wNoPart, wPart, wRev, wFrz, wLend, wLendT, wLendL, muW, wFor, wSeq, wRange1, wRange2, wLc, wipeR, wgName, wgTup, wgCons, wgNil, startR, wJoin, wZip, wEnum, wEnumA, wDisp1, wDGet2, wBrk, wCnt, wIxOx, wIxO, wPopSet, wPopAt, wPopAtSet, popAtW, wExt, wSet2, xE, xT, xA, xCons, xTup, xLst, xFz, xOp, xB, xNot, xAnd, xOr, xSl, xCB, xCallD, xCallX, xCallL, xRet, xDrop, xIfS, xSet, xAsg, wRaise, wTry, wHandle, outPs, wXf, wXis, wChain, wCat, wLm, gCnt, ev_addI, ev_addS, ev_addT, ev_addL, ev_mulI, ev_I, ev_I0, ev_ltI, ev_ltS, ev_ge, ev_eqI, ev_eqS, ev_eqB, ev_p0, ev_p1, ev_p2, ev_lenL, ev_lenT, ev_lenS, ev_lenQ, ev_lenK, ev_tupL, ev_tupT, ev_lisL, ev_lisT, ev_intI, ev_intB, ev_max2, ev_min2, ev_repr, ev_reprB, ev_reprT, ev_eqRp, ev_slL, ev_slT, ev_slS, ev_seqL, ev_seqT, ev_seqS, ev_inL, ev_inT, ev_isB, ev_dO, ev_dat0, ev_dat1, ev_dat2, ev_dat3, ev_dat4, ev_dat5, ev_dat8, ev_i0, ev_i1, ev_i2, ev_l0, ev_l1, ev_l2, dats, List.zip_cons_cons, List.zip_nil_right, List.zip_nil_left, List.reverse_singleton, List.reverse_cons, List.reverse_nil, wYes, List.getElem?_cons_zero, List.getElem?_cons_succ, List.set_cons_zero, List.set_cons_succ, List.map_cons, List.map_nil, List.cons_append, List.nil_append, List.append_nil, List.replicate, List.length_cons, List.length_nil, Nat.reduceAdd, Nat.reduceSub, Option.some.injEq, List.append_eq, Nat.zero_add, exists_eq', exists_eq_left', Sl.mu.injEq, Mu.l.injEq, Sl.sh.injEq, W.p.injEq, true_and, and_true, or_true, true_or, ite_true, ite_false, if_true, if_false, Bool.false_eq_true, decide_eq_true_eq]
          exact q
      | _ =>
        simp only [isD, Bool.false_and, Bool.not_false, wSeq2, wNext, wRet, wDrop, wIfS, wSet, wSetO, wSetN, wSetC, wSetIx, wSetI, wSetBx, wSetB, wAug, wApp, wAsg, wPar, wNilO, wConsO, wConsN, wL2N, putR, noUn, wVar, wC, wNil, wCons, wTup, wLst, wFz, wOp, wB, wAnd, wOr, wNot, wAndV, wOrV, wNotV, wIf, wNeg, wCB, wCL, wCallD, wRetB, wIsi, wSl, wNoPart, wPart, wRev, wFrz, wLend, wLendT, wLendL, muW, wFor, wSeq, wRange1, wRange2, wLc, wipeR, wgName, wgTup, wgCons, wgNil, startR, wJoin, wZip, wEnum, wEnumA, wDisp1, wDGet2, wBrk, wCnt, wIxOx, wIxO, wPopSet, wPopAt, wPopAtSet, popAtW, wExt, wSet2, xE, xT, xA, xCons, xTup, xLst, xFz, xOp, xB, xNot, xAnd, xOr, xSl, xCB, xCallD, xCallX, xCallL, xRet, xDrop, xIfS, xSet, xAsg, wRaise, wTry, wHandle, outPs, wXf, wXis, wChain, wCat, wLm, gCnt, ev_addI, ev_addS, ev_addT, ev_addL, ev_mulI, ev_I, ev_I0, ev_ltI, ev_ltS, ev_ge, ev_eqI, ev_eqS, ev_eqB, ev_p0, ev_p1, ev_p2, ev_lenL, ev_lenT, ev_lenS, ev_lenQ, ev_lenK, ev_tupL, ev_tupT, ev_lisL, ev_lisT, ev_intI, ev_intB, ev_max2, ev_min2, ev_repr, ev_reprB, ev_reprT, ev_eqRp, ev_slL, ev_slT, ev_slS, ev_seqL, ev_seqT, ev_seqS, ev_inL, ev_inT, ev_isB, ev_dO, ev_dat0, ev_dat1, ev_dat2, ev_dat3, ev_dat4, ev_dat5, ev_dat8, ev_i0, ev_i1, ev_i2, ev_l0, ev_l1, ev_l2, dats, List.zip_cons_cons, List.zip_nil_right, List.zip_nil_left, List.reverse_singleton, List.reverse_cons, List.reverse_nil, wYes, List.getElem?_cons_zero, List.getElem?_cons_succ, List.set_cons_zero, List.set_cons_succ, List.map_cons, List.map_nil, List.cons_append, List.nil_append, List.append_nil, List.replicate, List.length_cons, List.length_nil, Nat.reduceAdd, Nat.reduceSub, Option.some.injEq, List.append_eq, Nat.zero_add, exists_eq', exists_eq_left', Sl.mu.injEq, Mu.l.injEq, Sl.sh.injEq, W.p.injEq, true_and, and_true, or_true, true_or, ite_true, ite_false, if_true, if_false, Bool.false_eq_true, decide_eq_true_eq]
        exact q
    · rw [if_pos (by simp; omega)]
      have e : formOf (.tuple xs) = none := by
        unfold formOf
        split
        · rename_i z
          cases z
          exact absurd rfl h2
        · rfl
      rw [e] at q
      exact q
  | _ =>
    simp only [isD, Bool.not_false, wSeq2, wNext, wRet, wDrop, wIfS, wSet, wSetO, wSetN, wSetC, wSetIx, wSetI, wSetBx, wSetB, wAug, wApp, wAsg, wPar, wNilO, wConsO, wConsN, wL2N, putR, noUn, wVar, wC, wNil, wCons, wTup, wLst, wFz, wOp, wB, wAnd, wOr, wNot, wAndV, wOrV, wNotV, wIf, wNeg, wCB, wCL, wCallD, wRetB, wIsi, wSl, wNoPart, wPart, wRev, wFrz, wLend, wLendT, wLendL, muW, wFor, wSeq, wRange1, wRange2, wLc, wipeR, wgName, wgTup, wgCons, wgNil, startR, wJoin, wZip, wEnum, wEnumA, wDisp1, wDGet2, wBrk, wCnt, wIxOx, wIxO, wPopSet, wPopAt, wPopAtSet, popAtW, wExt, wSet2, xE, xT, xA, xCons, xTup, xLst, xFz, xOp, xB, xNot, xAnd, xOr, xSl, xCB, xCallD, xCallX, xCallL, xRet, xDrop, xIfS, xSet, xAsg, wRaise, wTry, wHandle, outPs, wXf, wXis, wChain, wCat, wLm, gCnt, ev_addI, ev_addS, ev_addT, ev_addL, ev_mulI, ev_I, ev_I0, ev_ltI, ev_ltS, ev_ge, ev_eqI, ev_eqS, ev_eqB, ev_p0, ev_p1, ev_p2, ev_lenL, ev_lenT, ev_lenS, ev_lenQ, ev_lenK, ev_tupL, ev_tupT, ev_lisL, ev_lisT, ev_intI, ev_intB, ev_max2, ev_min2, ev_repr, ev_reprB, ev_reprT, ev_eqRp, ev_slL, ev_slT, ev_slS, ev_seqL, ev_seqT, ev_seqS, ev_inL, ev_inT, ev_isB, ev_dO, ev_dat0, ev_dat1, ev_dat2, ev_dat3, ev_dat4, ev_dat5, ev_dat8, ev_i0, ev_i1, ev_i2, ev_l0, ev_l1, ev_l2, dats, List.zip_cons_cons, List.zip_nil_right, List.zip_nil_left, List.reverse_singleton, List.reverse_cons, List.reverse_nil, wYes, List.getElem?_cons_zero, List.getElem?_cons_succ, List.set_cons_zero, List.set_cons_succ, List.map_cons, List.map_nil, List.cons_append, List.nil_append, List.append_nil, List.replicate, List.length_cons, List.length_nil, Nat.reduceAdd, Nat.reduceSub, Option.some.injEq, List.append_eq, Nat.zero_add, exists_eq', exists_eq_left', Sl.mu.injEq, Mu.l.injEq, Sl.sh.injEq, W.p.injEq, true_and, and_true, or_true, true_or, ite_true, ite_false, if_true, if_false, Bool.false_eq_true, decide_eq_true_eq]
    exact q
/-! ### the rows of rooms and doors -/
def badR (rs : List Str) (i : Nat) : Bool := match rs[i]? with
  | some x => !isNameS x || (rs.take i).any (· == x)
  | none => false
def badD (rs : List Str) (ds : List Door) (i : Nat) : Option Str := match ds[i]? with
  | some p => if (!isNameS p.1 || (ds.take i).any (fun q => q.1 == p.1)) = true then some "door" else if (!decide (p.2.1 ∈ rs) || (!decide (p.2.2 ∈ rs) || p.2.1 == p.2.2)) = true then some "end" else none
  | none => none
/-- the first index where p tells something, and what -/
def firstSome (p : Nat → Option Str) : Nat → Nat → Option (Str × Nat)
  | _, 0 => none
  | i, n + 1 => match p i with
    | some x => some (x, i)
    | none => firstSome p (i + 1) n
def roomsOut (rs : List Str) : Option (Str × Nat) := firstSome (fun i => if badR rs i = true then some "room" else none) 0 rs.length
def doorsOut (rs : List Str) (ds : List Door) : Option (Str × Nat) := firstSome (badD rs ds) 0 ds.length
def hallOut (rs : List Str) (ds : List Door) : Option (Str × Nat) :=
  if 1 ≤ rs.length ∧ rs.length ≤ 8 then (if 12 < ds.length then some ("doors", 0) else (match roomsOut rs with
    | some r => some r
    | none => doorsOut rs ds)) else some ("rooms", 0)
def outD (d : D) : Option (Str × Nat) := match formOf d with
  | some (rs, ds) => hallOut rs ds
  | none => some ("form", 0)
/-- the first index where a walk ends -/
theorem forW_first {wg : WG} {wb : WS} {p : Nat → Option Str} {P : Ps} {B : Str × Nat → Prop} (I : Nat → Rh → Prop) : ∀ {ds : List D} {ρ : Rh} (n : Nat), I n ρ →
    (∀ i d ρ' (C : Rh → Prop), ds[i]? = some d → I (n + i) ρ' → (∀ x, p (n + i) = some x → B (x, n + i)) → (p (n + i) = none → ∀ ρ'', I (n + i + 1) ρ'' → C ρ'') → wg (.d d) ρ' fun ρ'' => wb ρ'' { P with nx := C, bk := P.nx, ct := C }) →
    (match firstSome p n ds.length with
      | some r => B r
      | none => ∀ ρ', I (n + ds.length) ρ' → P.nx ρ') → forW wg wb ds ρ P := by
  intro ds
  induction ds with
  | nil =>
    intro ρ n h0 _ q
    exact q ρ h0
  | cons d ds ih =>
    intro ρ n h0 hs q
    rw [List.length_cons, firstSome] at q
    refine hs 0 d ρ (fun ρ'' => forW wg wb ds ρ'' P) rfl h0 (fun x hx => ?_) fun hn ρ'' h1 => ?_
    · rw [Nat.add_zero] at hx
      rw [hx] at q
      exact q
    · rw [Nat.add_zero] at hn
      rw [hn] at q
      refine ih (n + 1) h1 (fun i d' ρ' C e hi hb hc => ?_) ?_
      · have e1 : n + (i + 1) = n + 1 + i := by omega
        have := hs (i + 1) d' ρ' C (by simpa using e)
        rw [e1] at this
        exact this hi hb hc
      · rw [show n + (ds.length + 1) = n + 1 + ds.length by omega] at q
        exact q
abbrev xnH (r : Str) (i : Nat) : Xn := ⟨"InvalidHall", [("index", .int (i : Int)), ("reason", .str r)]⟩
def F_validate_rooms : FX := fun ws Φ Θ => ∃ rs : List Str, ws = [.d (.tuple (rs.map PyData.str))] ∧ (match roomsOut rs with
  | some r => Θ (xnH r.1 r.2)
  | none => Φ (.d .none))
theorem l_validate_rooms (ws : List W) (Φ : W → Prop) (Θ : Xn → Prop) (h : F_validate_rooms ws Φ Θ) : ws.length = 1 := by
  obtain ⟨_, rfl, _⟩ := h
  rfl
theorem m_validate_rooms (ws : List W) (Φ : W → Prop) (Θ : Xn → Prop) (h : F_validate_rooms ws Φ Θ) : w_validate_rooms F_is_name (startR n_validate_rooms ws) ⟨fun _ => Φ (.d .none), Φ, fun _ => False, fun _ => False, fun x _ => Θ x⟩ := by
  obtain ⟨rs, rfl, q⟩ := h
  simp only [w_validate_rooms, n_validate_rooms, wSeq2, wNext, wRet, wDrop, wIfS, wSet, wSetO, wSetN, wSetC, wSetIx, wSetI, wSetBx, wSetB, wAug, wApp, wAsg, wPar, wNilO, wConsO, wConsN, wL2N, putR, noUn, wVar, wC, wNil, wCons, wTup, wLst, wFz, wOp, wB, wAnd, wOr, wNot, wAndV, wOrV, wNotV, wIf, wNeg, wCB, wCL, wCallD, wRetB, wIsi, wSl, wNoPart, wPart, wRev, wFrz, wLend, wLendT, wLendL, muW, wFor, wSeq, wRange1, wRange2, wLc, wipeR, wgName, wgTup, wgCons, wgNil, startR, wJoin, wZip, wEnum, wEnumA, wDisp1, wDGet2, wBrk, wCnt, wIxOx, wIxO, wPopSet, wPopAt, wPopAtSet, popAtW, wExt, wSet2, xE, xT, xA, xCons, xTup, xLst, xFz, xOp, xB, xNot, xAnd, xOr, xSl, xCB, xCallD, xCallX, xCallL, xRet, xDrop, xIfS, xSet, xAsg, wRaise, wTry, wHandle, outPs, wXf, wXis, wChain, wCat, wLm, gCnt, ev_addI, ev_addS, ev_addT, ev_addL, ev_mulI, ev_I, ev_I0, ev_ltI, ev_ltS, ev_ge, ev_eqI, ev_eqS, ev_eqB, ev_p0, ev_p1, ev_p2, ev_lenL, ev_lenT, ev_lenS, ev_lenQ, ev_lenK, ev_tupL, ev_tupT, ev_lisL, ev_lisT, ev_intI, ev_intB, ev_max2, ev_min2, ev_repr, ev_reprB, ev_reprT, ev_eqRp, ev_slL, ev_slT, ev_slS, ev_seqL, ev_seqT, ev_seqS, ev_inL, ev_inT, ev_isB, ev_dO, ev_dat0, ev_dat1, ev_dat2, ev_dat3, ev_dat4, ev_dat5, ev_dat8, ev_i0, ev_i1, ev_i2, ev_l0, ev_l1, ev_l2, dats, List.zip_cons_cons, List.zip_nil_right, List.zip_nil_left, List.reverse_singleton, List.reverse_cons, List.reverse_nil, wYes, List.getElem?_cons_zero, List.getElem?_cons_succ, List.set_cons_zero, List.set_cons_succ, List.map_cons, List.map_nil, List.cons_append, List.nil_append, List.append_nil, List.replicate, List.length_cons, List.length_nil, Nat.reduceAdd, Nat.reduceSub, Option.some.injEq, List.append_eq, Nat.zero_add, exists_eq', exists_eq_left', Sl.mu.injEq, Mu.l.injEq, Sl.sh.injEq, W.p.injEq, true_and, and_true, or_true, true_or, ite_true, ite_false, if_true, if_false, Bool.false_eq_true, decide_eq_true_eq]
  refine forW_first (p := fun i => if badR rs i = true then some "room" else none) (B := fun r => Θ (xnH r.1 r.2)) (fun n ρ' => ∃ s1 s2, ρ' = [.sh (.d (.tuple (rs.map PyData.str))), s1, s2]) 0 ⟨_, _, rfl⟩ (fun i d ρ' C hd hI hB hC => ?_) ?_
  · obtain ⟨s1, s2, rfl⟩ := hI
    obtain ⟨x0, e0, rfl⟩ := enumD_get hd
    rw [List.getElem?_map] at e0
    cases e : rs[i]? with
    | none => rw [e] at e0; cases e0
    | some x =>
      rw [e] at e0
      cases e0
      simp only [Nat.zero_add] at hB hC
      have hb : badR rs i = (!isNameS x || (rs.take i).any (· == x)) := by
        unfold badR
        rw [e]
      rw [hb] at hB hC
      simp only [pairD, wSeq2, wNext, wRet, wDrop, wIfS, wSet, wSetO, wSetN, wSetC, wSetIx, wSetI, wSetBx, wSetB, wAug, wApp, wAsg, wPar, wNilO, wConsO, wConsN, wL2N, putR, noUn, wVar, wC, wNil, wCons, wTup, wLst, wFz, wOp, wB, wAnd, wOr, wNot, wAndV, wOrV, wNotV, wIf, wNeg, wCB, wCL, wCallD, wRetB, wIsi, wSl, wNoPart, wPart, wRev, wFrz, wLend, wLendT, wLendL, muW, wFor, wSeq, wRange1, wRange2, wLc, wipeR, wgName, wgTup, wgCons, wgNil, startR, wJoin, wZip, wEnum, wEnumA, wDisp1, wDGet2, wBrk, wCnt, wIxOx, wIxO, wPopSet, wPopAt, wPopAtSet, popAtW, wExt, wSet2, xE, xT, xA, xCons, xTup, xLst, xFz, xOp, xB, xNot, xAnd, xOr, xSl, xCB, xCallD, xCallX, xCallL, xRet, xDrop, xIfS, xSet, xAsg, wRaise, wTry, wHandle, outPs, wXf, wXis, wChain, wCat, wLm, gCnt, ev_addI, ev_addS, ev_addT, ev_addL, ev_mulI, ev_I, ev_I0, ev_ltI, ev_ltS, ev_ge, ev_eqI, ev_eqS, ev_eqB, ev_p0, ev_p1, ev_p2, ev_lenL, ev_lenT, ev_lenS, ev_lenQ, ev_lenK, ev_tupL, ev_tupT, ev_lisL, ev_lisT, ev_intI, ev_intB, ev_max2, ev_min2, ev_repr, ev_reprB, ev_reprT, ev_eqRp, ev_slL, ev_slT, ev_slS, ev_seqL, ev_seqT, ev_seqS, ev_inL, ev_inT, ev_isB, ev_dO, ev_dat0, ev_dat1, ev_dat2, ev_dat3, ev_dat4, ev_dat5, ev_dat8, ev_i0, ev_i1, ev_i2, ev_l0, ev_l1, ev_l2, dats, List.zip_cons_cons, List.zip_nil_right, List.zip_nil_left, List.reverse_singleton, List.reverse_cons, List.reverse_nil, wYes, List.getElem?_cons_zero, List.getElem?_cons_succ, List.set_cons_zero, List.set_cons_succ, List.map_cons, List.map_nil, List.cons_append, List.nil_append, List.append_nil, List.replicate, List.length_cons, List.length_nil, Nat.reduceAdd, Nat.reduceSub, Option.some.injEq, List.append_eq, Nat.zero_add, exists_eq', exists_eq_left', Sl.mu.injEq, Mu.l.injEq, Sl.sh.injEq, W.p.injEq, true_and, and_true, or_true, true_or, ite_true, ite_false, if_true, if_false, Bool.false_eq_true, decide_eq_true_eq]
      refine ⟨.str x, rfl, ?_⟩
      have en : isNameD (.str x) = isNameS x := rfl
      simp only [en, wSeq2, wNext, wRet, wDrop, wIfS, wSet, wSetO, wSetN, wSetC, wSetIx, wSetI, wSetBx, wSetB, wAug, wApp, wAsg, wPar, wNilO, wConsO, wConsN, wL2N, putR, noUn, wVar, wC, wNil, wCons, wTup, wLst, wFz, wOp, wB, wAnd, wOr, wNot, wAndV, wOrV, wNotV, wIf, wNeg, wCB, wCL, wCallD, wRetB, wIsi, wSl, wNoPart, wPart, wRev, wFrz, wLend, wLendT, wLendL, muW, wFor, wSeq, wRange1, wRange2, wLc, wipeR, wgName, wgTup, wgCons, wgNil, startR, wJoin, wZip, wEnum, wEnumA, wDisp1, wDGet2, wBrk, wCnt, wIxOx, wIxO, wPopSet, wPopAt, wPopAtSet, popAtW, wExt, wSet2, xE, xT, xA, xCons, xTup, xLst, xFz, xOp, xB, xNot, xAnd, xOr, xSl, xCB, xCallD, xCallX, xCallL, xRet, xDrop, xIfS, xSet, xAsg, wRaise, wTry, wHandle, outPs, wXf, wXis, wChain, wCat, wLm, gCnt, ev_addI, ev_addS, ev_addT, ev_addL, ev_mulI, ev_I, ev_I0, ev_ltI, ev_ltS, ev_ge, ev_eqI, ev_eqS, ev_eqB, ev_p0, ev_p1, ev_p2, ev_lenL, ev_lenT, ev_lenS, ev_lenQ, ev_lenK, ev_tupL, ev_tupT, ev_lisL, ev_lisT, ev_intI, ev_intB, ev_max2, ev_min2, ev_repr, ev_reprB, ev_reprT, ev_eqRp, ev_slL, ev_slT, ev_slS, ev_seqL, ev_seqT, ev_seqS, ev_inL, ev_inT, ev_isB, ev_dO, ev_dat0, ev_dat1, ev_dat2, ev_dat3, ev_dat4, ev_dat5, ev_dat8, ev_i0, ev_i1, ev_i2, ev_l0, ev_l1, ev_l2, dats, List.zip_cons_cons, List.zip_nil_right, List.zip_nil_left, List.reverse_singleton, List.reverse_cons, List.reverse_nil, wYes, List.getElem?_cons_zero, List.getElem?_cons_succ, List.set_cons_zero, List.set_cons_succ, List.map_cons, List.map_nil, List.cons_append, List.nil_append, List.append_nil, List.replicate, List.length_cons, List.length_nil, Nat.reduceAdd, Nat.reduceSub, Option.some.injEq, List.append_eq, Nat.zero_add, exists_eq', exists_eq_left', Sl.mu.injEq, Mu.l.injEq, Sl.sh.injEq, W.p.injEq, true_and, and_true, or_true, true_or, ite_true, ite_false, if_true, if_false, Bool.false_eq_true, decide_eq_true_eq]
      cases hn : isNameS x with
      | false =>
        simp only [hn, Bool.not_false, Bool.true_or, if_true] at hB
        exact hB _ rfl
      | true =>
        simp only [hn, Bool.not_true, Bool.false_or, Bool.false_eq_true, if_false] at hB hC ⊢
        refine ⟨by rw [d0]; omega, ?_⟩
        have ec : cutD (rs.map PyData.str) none (some (i : Int)) = (rs.take i).map PyData.str := by
          rw [cutD_to (by omega), List.map_take]
          rfl
        rw [ec, any_str]
        cases hq : (rs.take i).any (fun y => y == x) with
        | true =>
          simp only [hq, if_true] at hB
          exact hB _ rfl
        | false =>
          simp only [hq, Bool.false_eq_true, if_false] at hC
          exact hC trivial _ ⟨_, _, rfl⟩
  · rw [enumD_len, List.length_map]
    unfold roomsOut at q
    split
    · rename_i r hr
      rw [hr] at q
      exact q
    · rename_i hr
      rw [hr] at q
      exact fun _ _ => q
def F_validate_doors : FX := fun ws Φ Θ => ∃ (rs : List Str) (ds : List Door), ws = [.d (.tuple (rs.map PyData.str)), .d (.tuple (ds.map doorD))] ∧ (match doorsOut rs ds with
  | some r => Θ (xnH r.1 r.2)
  | none => Φ (.d .none))
theorem l_validate_doors (ws : List W) (Φ : W → Prop) (Θ : Xn → Prop) (h : F_validate_doors ws Φ Θ) : ws.length = 2 := by
  obtain ⟨_, _, rfl, _⟩ := h
  rfl
theorem eqSS (x y : Str) : (x == y) = decide (x = y) := by
  rw [Bool.eq_iff_iff]
  simp
theorem m_validate_doors (ws : List W) (Φ : W → Prop) (Θ : Xn → Prop) (h : F_validate_doors ws Φ Θ) : w_validate_doors F_is_name (startR n_validate_doors ws) ⟨fun _ => Φ (.d .none), Φ, fun _ => False, fun _ => False, fun x _ => Θ x⟩ := by
  obtain ⟨rs, ds, rfl, q⟩ := h
  simp only [w_validate_doors, n_validate_doors, wSeq2, wNext, wRet, wDrop, wIfS, wSet, wSetO, wSetN, wSetC, wSetIx, wSetI, wSetBx, wSetB, wAug, wApp, wAsg, wPar, wNilO, wConsO, wConsN, wL2N, putR, noUn, wVar, wC, wNil, wCons, wTup, wLst, wFz, wOp, wB, wAnd, wOr, wNot, wAndV, wOrV, wNotV, wIf, wNeg, wCB, wCL, wCallD, wRetB, wIsi, wSl, wNoPart, wPart, wRev, wFrz, wLend, wLendT, wLendL, muW, wFor, wSeq, wRange1, wRange2, wLc, wipeR, wgName, wgTup, wgCons, wgNil, startR, wJoin, wZip, wEnum, wEnumA, wDisp1, wDGet2, wBrk, wCnt, wIxOx, wIxO, wPopSet, wPopAt, wPopAtSet, popAtW, wExt, wSet2, xE, xT, xA, xCons, xTup, xLst, xFz, xOp, xB, xNot, xAnd, xOr, xSl, xCB, xCallD, xCallX, xCallL, xRet, xDrop, xIfS, xSet, xAsg, wRaise, wTry, wHandle, outPs, wXf, wXis, wChain, wCat, wLm, gCnt, ev_addI, ev_addS, ev_addT, ev_addL, ev_mulI, ev_I, ev_I0, ev_ltI, ev_ltS, ev_ge, ev_eqI, ev_eqS, ev_eqB, ev_p0, ev_p1, ev_p2, ev_lenL, ev_lenT, ev_lenS, ev_lenQ, ev_lenK, ev_tupL, ev_tupT, ev_lisL, ev_lisT, ev_intI, ev_intB, ev_max2, ev_min2, ev_repr, ev_reprB, ev_reprT, ev_eqRp, ev_slL, ev_slT, ev_slS, ev_seqL, ev_seqT, ev_seqS, ev_inL, ev_inT, ev_isB, ev_dO, ev_dat0, ev_dat1, ev_dat2, ev_dat3, ev_dat4, ev_dat5, ev_dat8, ev_i0, ev_i1, ev_i2, ev_l0, ev_l1, ev_l2, dats, List.zip_cons_cons, List.zip_nil_right, List.zip_nil_left, List.reverse_singleton, List.reverse_cons, List.reverse_nil, wYes, List.getElem?_cons_zero, List.getElem?_cons_succ, List.set_cons_zero, List.set_cons_succ, List.map_cons, List.map_nil, List.cons_append, List.nil_append, List.append_nil, List.replicate, List.length_cons, List.length_nil, Nat.reduceAdd, Nat.reduceSub, Option.some.injEq, List.append_eq, Nat.zero_add, exists_eq', exists_eq_left', Sl.mu.injEq, Mu.l.injEq, Sl.sh.injEq, W.p.injEq, true_and, and_true, or_true, true_or, ite_true, ite_false, if_true, if_false, Bool.false_eq_true, decide_eq_true_eq]
  refine forW_first (p := badD rs ds) (B := fun r => Θ (xnH r.1 r.2)) (fun n ρ' => ∃ s2 s3 s4 s5 s6 s7 s8, ρ' = [.sh (.d (.tuple (rs.map PyData.str))), .sh (.d (.tuple (ds.map doorD))), s2, s3, s4, s5, s6, s7, s8]) 0 ⟨_, _, _, _, _, _, _, rfl⟩ (fun i d ρ' C hd hI hB hC => ?_) ?_
  · obtain ⟨s2, s3, s4, s5, s6, s7, s8, rfl⟩ := hI
    obtain ⟨x0, e0, rfl⟩ := enumD_get hd
    rw [List.getElem?_map] at e0
    cases e : ds[i]? with
    | none => rw [e] at e0; cases e0
    | some p =>
      rw [e] at e0
      cases e0
      simp only [Nat.zero_add] at hB hC
      have hb : badD rs ds i = if (!isNameS p.1 || (ds.take i).any (fun q => q.1 == p.1)) = true then some (("door" : Str)) else if (!decide (p.2.1 ∈ rs) || (!decide (p.2.2 ∈ rs) || p.2.1 == p.2.2)) = true then some (("end" : Str)) else none := by
        unfold badD
        rw [e]
      rw [hb] at hB hC
      simp only [pairD, doorD, wSeq2, wNext, wRet, wDrop, wIfS, wSet, wSetO, wSetN, wSetC, wSetIx, wSetI, wSetBx, wSetB, wAug, wApp, wAsg, wPar, wNilO, wConsO, wConsN, wL2N, putR, noUn, wVar, wC, wNil, wCons, wTup, wLst, wFz, wOp, wB, wAnd, wOr, wNot, wAndV, wOrV, wNotV, wIf, wNeg, wCB, wCL, wCallD, wRetB, wIsi, wSl, wNoPart, wPart, wRev, wFrz, wLend, wLendT, wLendL, muW, wFor, wSeq, wRange1, wRange2, wLc, wipeR, wgName, wgTup, wgCons, wgNil, startR, wJoin, wZip, wEnum, wEnumA, wDisp1, wDGet2, wBrk, wCnt, wIxOx, wIxO, wPopSet, wPopAt, wPopAtSet, popAtW, wExt, wSet2, xE, xT, xA, xCons, xTup, xLst, xFz, xOp, xB, xNot, xAnd, xOr, xSl, xCB, xCallD, xCallX, xCallL, xRet, xDrop, xIfS, xSet, xAsg, wRaise, wTry, wHandle, outPs, wXf, wXis, wChain, wCat, wLm, gCnt, ev_addI, ev_addS, ev_addT, ev_addL, ev_mulI, ev_I, ev_I0, ev_ltI, ev_ltS, ev_ge, ev_eqI, ev_eqS, ev_eqB, ev_p0, ev_p1, ev_p2, ev_lenL, ev_lenT, ev_lenS, ev_lenQ, ev_lenK, ev_tupL, ev_tupT, ev_lisL, ev_lisT, ev_intI, ev_intB, ev_max2, ev_min2, ev_repr, ev_reprB, ev_reprT, ev_eqRp, ev_slL, ev_slT, ev_slS, ev_seqL, ev_seqT, ev_seqS, ev_inL, ev_inT, ev_isB, ev_dO, ev_dat0, ev_dat1, ev_dat2, ev_dat3, ev_dat4, ev_dat5, ev_dat8, ev_i0, ev_i1, ev_i2, ev_l0, ev_l1, ev_l2, dats, List.zip_cons_cons, List.zip_nil_right, List.zip_nil_left, List.reverse_singleton, List.reverse_cons, List.reverse_nil, wYes, List.getElem?_cons_zero, List.getElem?_cons_succ, List.set_cons_zero, List.set_cons_succ, List.map_cons, List.map_nil, List.cons_append, List.nil_append, List.append_nil, List.replicate, List.length_cons, List.length_nil, Nat.reduceAdd, Nat.reduceSub, Option.some.injEq, List.append_eq, Nat.zero_add, exists_eq', exists_eq_left', Sl.mu.injEq, Mu.l.injEq, Sl.sh.injEq, W.p.injEq, true_and, and_true, or_true, true_or, ite_true, ite_false, if_true, if_false, Bool.false_eq_true, decide_eq_true_eq]
      refine ⟨.str p.1, rfl, ?_⟩
      have en : isNameD (.str p.1) = isNameS p.1 := rfl
      simp only [en, wSeq2, wNext, wRet, wDrop, wIfS, wSet, wSetO, wSetN, wSetC, wSetIx, wSetI, wSetBx, wSetB, wAug, wApp, wAsg, wPar, wNilO, wConsO, wConsN, wL2N, putR, noUn, wVar, wC, wNil, wCons, wTup, wLst, wFz, wOp, wB, wAnd, wOr, wNot, wAndV, wOrV, wNotV, wIf, wNeg, wCB, wCL, wCallD, wRetB, wIsi, wSl, wNoPart, wPart, wRev, wFrz, wLend, wLendT, wLendL, muW, wFor, wSeq, wRange1, wRange2, wLc, wipeR, wgName, wgTup, wgCons, wgNil, startR, wJoin, wZip, wEnum, wEnumA, wDisp1, wDGet2, wBrk, wCnt, wIxOx, wIxO, wPopSet, wPopAt, wPopAtSet, popAtW, wExt, wSet2, xE, xT, xA, xCons, xTup, xLst, xFz, xOp, xB, xNot, xAnd, xOr, xSl, xCB, xCallD, xCallX, xCallL, xRet, xDrop, xIfS, xSet, xAsg, wRaise, wTry, wHandle, outPs, wXf, wXis, wChain, wCat, wLm, gCnt, ev_addI, ev_addS, ev_addT, ev_addL, ev_mulI, ev_I, ev_I0, ev_ltI, ev_ltS, ev_ge, ev_eqI, ev_eqS, ev_eqB, ev_p0, ev_p1, ev_p2, ev_lenL, ev_lenT, ev_lenS, ev_lenQ, ev_lenK, ev_tupL, ev_tupT, ev_lisL, ev_lisT, ev_intI, ev_intB, ev_max2, ev_min2, ev_repr, ev_reprB, ev_reprT, ev_eqRp, ev_slL, ev_slT, ev_slS, ev_seqL, ev_seqT, ev_seqS, ev_inL, ev_inT, ev_isB, ev_dO, ev_dat0, ev_dat1, ev_dat2, ev_dat3, ev_dat4, ev_dat5, ev_dat8, ev_i0, ev_i1, ev_i2, ev_l0, ev_l1, ev_l2, dats, List.zip_cons_cons, List.zip_nil_right, List.zip_nil_left, List.reverse_singleton, List.reverse_cons, List.reverse_nil, wYes, List.getElem?_cons_zero, List.getElem?_cons_succ, List.set_cons_zero, List.set_cons_succ, List.map_cons, List.map_nil, List.cons_append, List.nil_append, List.append_nil, List.replicate, List.length_cons, List.length_nil, Nat.reduceAdd, Nat.reduceSub, Option.some.injEq, List.append_eq, Nat.zero_add, exists_eq', exists_eq_left', Sl.mu.injEq, Mu.l.injEq, Sl.sh.injEq, W.p.injEq, true_and, and_true, or_true, true_or, ite_true, ite_false, if_true, if_false, Bool.false_eq_true, decide_eq_true_eq]
      cases hn : isNameS p.1 with
      | false =>
        simp only [hn, Bool.not_false, Bool.true_or, if_true] at hB
        exact hB _ rfl
      | true =>
        simp only [hn, Bool.not_true, Bool.false_or, Bool.false_eq_true, if_false] at hB hC ⊢
        have ec : cutD (ds.map doorD) none (some (i : Int)) = (ds.take i).map doorD := by
          rw [cutD_to (by omega), List.map_take]
          rfl
        rw [ec]
        refine compW_mp (g := fun q : Door => PyData.str q.1) (ds.take i) (fun r _ acc C' k => ?_) ?_
        · simp only [doorD, wSeq2, wNext, wRet, wDrop, wIfS, wSet, wSetO, wSetN, wSetC, wSetIx, wSetI, wSetBx, wSetB, wAug, wApp, wAsg, wPar, wNilO, wConsO, wConsN, wL2N, putR, noUn, wVar, wC, wNil, wCons, wTup, wLst, wFz, wOp, wB, wAnd, wOr, wNot, wAndV, wOrV, wNotV, wIf, wNeg, wCB, wCL, wCallD, wRetB, wIsi, wSl, wNoPart, wPart, wRev, wFrz, wLend, wLendT, wLendL, muW, wFor, wSeq, wRange1, wRange2, wLc, wipeR, wgName, wgTup, wgCons, wgNil, startR, wJoin, wZip, wEnum, wEnumA, wDisp1, wDGet2, wBrk, wCnt, wIxOx, wIxO, wPopSet, wPopAt, wPopAtSet, popAtW, wExt, wSet2, xE, xT, xA, xCons, xTup, xLst, xFz, xOp, xB, xNot, xAnd, xOr, xSl, xCB, xCallD, xCallX, xCallL, xRet, xDrop, xIfS, xSet, xAsg, wRaise, wTry, wHandle, outPs, wXf, wXis, wChain, wCat, wLm, gCnt, ev_addI, ev_addS, ev_addT, ev_addL, ev_mulI, ev_I, ev_I0, ev_ltI, ev_ltS, ev_ge, ev_eqI, ev_eqS, ev_eqB, ev_p0, ev_p1, ev_p2, ev_lenL, ev_lenT, ev_lenS, ev_lenQ, ev_lenK, ev_tupL, ev_tupT, ev_lisL, ev_lisT, ev_intI, ev_intB, ev_max2, ev_min2, ev_repr, ev_reprB, ev_reprT, ev_eqRp, ev_slL, ev_slT, ev_slS, ev_seqL, ev_seqT, ev_seqS, ev_inL, ev_inT, ev_isB, ev_dO, ev_dat0, ev_dat1, ev_dat2, ev_dat3, ev_dat4, ev_dat5, ev_dat8, ev_i0, ev_i1, ev_i2, ev_l0, ev_l1, ev_l2, dats, List.zip_cons_cons, List.zip_nil_right, List.zip_nil_left, List.reverse_singleton, List.reverse_cons, List.reverse_nil, wYes, List.getElem?_cons_zero, List.getElem?_cons_succ, List.set_cons_zero, List.set_cons_succ, List.map_cons, List.map_nil, List.cons_append, List.nil_append, List.append_nil, List.replicate, List.length_cons, List.length_nil, Nat.reduceAdd, Nat.reduceSub, Option.some.injEq, List.append_eq, Nat.zero_add, exists_eq', exists_eq_left', Sl.mu.injEq, Mu.l.injEq, Sl.sh.injEq, W.p.injEq, true_and, and_true, or_true, true_or, ite_true, ite_false, if_true, if_false, Bool.false_eq_true, decide_eq_true_eq]
          exact k
        have em : (ds.take i).map (fun q : Door => PyData.str q.1) = ((ds.take i).map (·.1)).map PyData.str := by rw [List.map_map]; rfl
        rw [em]
        refine ⟨by rw [d0]; omega, ?_⟩
        rw [any_str, List.any_map]
        cases hq : (ds.take i).any (fun q => q.1 == p.1) with
        | true =>
          have hq' : (ds.take i).any ((fun y => y == p.1) ∘ fun x => x.1) = true := hq
          rw [hq']
          simp only [hq, if_true] at hB
          exact hB _ rfl
        | false =>
          have hq' : (ds.take i).any ((fun y => y == p.1) ∘ fun x => x.1) = false := hq
          rw [hq']
          simp only [hq, Bool.false_eq_true, if_false] at hB hC
          simp only [bne_self_eq_false, Bool.false_eq_true, if_false]
          rw [any_str, any_str, any_mem, any_mem]
          refine ⟨by rw [d0]; omega, ?_⟩
          cases h1 : decide (p.2.1 ∈ rs) with
          | false =>
            simp only [h1, Bool.not_false, Bool.true_or, if_true] at hB
            exact hB _ rfl
          | true =>
            simp only [h1, Bool.not_true, Bool.false_or] at hB hC
            simp only [bne_self_eq_false, Bool.false_eq_true, if_false]
            refine ⟨by rw [d0]; omega, ?_⟩
            cases h2 : decide (p.2.2 ∈ rs) with
            | false =>
              simp only [h2, Bool.not_false, Bool.true_or, if_true] at hB
              exact hB _ rfl
            | true =>
              simp only [h2, Bool.not_true, Bool.false_or] at hB hC
              simp only [bne_self_eq_false, Bool.false_eq_true, if_false]
              cases h3 : (p.2.1 == p.2.2) with
              | true =>
                simp only [h3, if_true] at hB
                exact hB _ rfl
              | false =>
                simp only [h3, Bool.false_eq_true, if_false] at hC
                exact hC trivial _ ⟨_, _, _, _, _, _, _, rfl⟩
  · rw [enumD_len, List.length_map]
    unfold doorsOut at q
    split
    · rename_i r hr
      rw [hr] at q
      exact q
    · rename_i hr
      rw [hr] at q
      exact fun _ _ => q
def F_validate_hall : FX := fun ws Φ Θ => ∃ d, ws = [.d d] ∧ (match outD d with
  | some r => Θ (xnH r.1 r.2)
  | none => Φ (.d (.bool true)))
theorem l_validate_hall (ws : List W) (Φ : W → Prop) (Θ : Xn → Prop) (h : F_validate_hall ws Φ Θ) : ws.length = 1 := by
  obtain ⟨_, rfl, _⟩ := h
  rfl
theorem m_validate_hall (ws : List W) (Φ : W → Prop) (Θ : Xn → Prop) (h : F_validate_hall ws Φ Θ) : w_validate_hall F_validate_rooms F_validate_doors F_has_form (startR n_validate_hall ws) ⟨fun _ => Φ (.d .none), Φ, fun _ => False, fun _ => False, fun x _ => Θ x⟩ := by
  obtain ⟨d, rfl, q⟩ := h
  simp only [w_validate_hall, n_validate_hall, wSeq2, wNext, wRet, wDrop, wIfS, wSet, wSetO, wSetN, wSetC, wSetIx, wSetI, wSetBx, wSetB, wAug, wApp, wAsg, wPar, wNilO, wConsO, wConsN, wL2N, putR, noUn, wVar, wC, wNil, wCons, wTup, wLst, wFz, wOp, wB, wAnd, wOr, wNot, wAndV, wOrV, wNotV, wIf, wNeg, wCB, wCL, wCallD, wRetB, wIsi, wSl, wNoPart, wPart, wRev, wFrz, wLend, wLendT, wLendL, muW, wFor, wSeq, wRange1, wRange2, wLc, wipeR, wgName, wgTup, wgCons, wgNil, startR, wJoin, wZip, wEnum, wEnumA, wDisp1, wDGet2, wBrk, wCnt, wIxOx, wIxO, wPopSet, wPopAt, wPopAtSet, popAtW, wExt, wSet2, xE, xT, xA, xCons, xTup, xLst, xFz, xOp, xB, xNot, xAnd, xOr, xSl, xCB, xCallD, xCallX, xCallL, xRet, xDrop, xIfS, xSet, xAsg, wRaise, wTry, wHandle, outPs, wXf, wXis, wChain, wCat, wLm, gCnt, ev_addI, ev_addS, ev_addT, ev_addL, ev_mulI, ev_I, ev_I0, ev_ltI, ev_ltS, ev_ge, ev_eqI, ev_eqS, ev_eqB, ev_p0, ev_p1, ev_p2, ev_lenL, ev_lenT, ev_lenS, ev_lenQ, ev_lenK, ev_tupL, ev_tupT, ev_lisL, ev_lisT, ev_intI, ev_intB, ev_max2, ev_min2, ev_repr, ev_reprB, ev_reprT, ev_eqRp, ev_slL, ev_slT, ev_slS, ev_seqL, ev_seqT, ev_seqS, ev_inL, ev_inT, ev_isB, ev_dO, ev_dat0, ev_dat1, ev_dat2, ev_dat3, ev_dat4, ev_dat5, ev_dat8, ev_i0, ev_i1, ev_i2, ev_l0, ev_l1, ev_l2, dats, List.zip_cons_cons, List.zip_nil_right, List.zip_nil_left, List.reverse_singleton, List.reverse_cons, List.reverse_nil, wYes, List.getElem?_cons_zero, List.getElem?_cons_succ, List.set_cons_zero, List.set_cons_succ, List.map_cons, List.map_nil, List.cons_append, List.nil_append, List.append_nil, List.replicate, List.length_cons, List.length_nil, Nat.reduceAdd, Nat.reduceSub, Option.some.injEq, List.append_eq, Nat.zero_add, exists_eq', exists_eq_left', Sl.mu.injEq, Mu.l.injEq, Sl.sh.injEq, W.p.injEq, true_and, and_true, or_true, true_or, ite_true, ite_false, if_true, if_false, Bool.false_eq_true, decide_eq_true_eq]
  refine ⟨d, rfl, ?_⟩
  unfold outD at q
  cases hf : formOf d with
  | none =>
    rw [hf] at q
    simp only [Option.isSome_none, Bool.not_false, wSeq2, wNext, wRet, wDrop, wIfS, wSet, wSetO, wSetN, wSetC, wSetIx, wSetI, wSetBx, wSetB, wAug, wApp, wAsg, wPar, wNilO, wConsO, wConsN, wL2N, putR, noUn, wVar, wC, wNil, wCons, wTup, wLst, wFz, wOp, wB, wAnd, wOr, wNot, wAndV, wOrV, wNotV, wIf, wNeg, wCB, wCL, wCallD, wRetB, wIsi, wSl, wNoPart, wPart, wRev, wFrz, wLend, wLendT, wLendL, muW, wFor, wSeq, wRange1, wRange2, wLc, wipeR, wgName, wgTup, wgCons, wgNil, startR, wJoin, wZip, wEnum, wEnumA, wDisp1, wDGet2, wBrk, wCnt, wIxOx, wIxO, wPopSet, wPopAt, wPopAtSet, popAtW, wExt, wSet2, xE, xT, xA, xCons, xTup, xLst, xFz, xOp, xB, xNot, xAnd, xOr, xSl, xCB, xCallD, xCallX, xCallL, xRet, xDrop, xIfS, xSet, xAsg, wRaise, wTry, wHandle, outPs, wXf, wXis, wChain, wCat, wLm, gCnt, ev_addI, ev_addS, ev_addT, ev_addL, ev_mulI, ev_I, ev_I0, ev_ltI, ev_ltS, ev_ge, ev_eqI, ev_eqS, ev_eqB, ev_p0, ev_p1, ev_p2, ev_lenL, ev_lenT, ev_lenS, ev_lenQ, ev_lenK, ev_tupL, ev_tupT, ev_lisL, ev_lisT, ev_intI, ev_intB, ev_max2, ev_min2, ev_repr, ev_reprB, ev_reprT, ev_eqRp, ev_slL, ev_slT, ev_slS, ev_seqL, ev_seqT, ev_seqS, ev_inL, ev_inT, ev_isB, ev_dO, ev_dat0, ev_dat1, ev_dat2, ev_dat3, ev_dat4, ev_dat5, ev_dat8, ev_i0, ev_i1, ev_i2, ev_l0, ev_l1, ev_l2, dats, List.zip_cons_cons, List.zip_nil_right, List.zip_nil_left, List.reverse_singleton, List.reverse_cons, List.reverse_nil, wYes, List.getElem?_cons_zero, List.getElem?_cons_succ, List.set_cons_zero, List.set_cons_succ, List.map_cons, List.map_nil, List.cons_append, List.nil_append, List.append_nil, List.replicate, List.length_cons, List.length_nil, Nat.reduceAdd, Nat.reduceSub, Option.some.injEq, List.append_eq, Nat.zero_add, exists_eq', exists_eq_left', Sl.mu.injEq, Mu.l.injEq, Sl.sh.injEq, W.p.injEq, true_and, and_true, or_true, true_or, ite_true, ite_false, if_true, if_false, Bool.false_eq_true, decide_eq_true_eq]
    exact q
  | some p =>
    obtain ⟨rs, ds⟩ := p
    rw [hf] at q
    have e := formOf_eq hf
    subst e
    unfold hallOut at q
    simp only [Option.isSome_some, Bool.not_true, hallD, wSeq2, wNext, wRet, wDrop, wIfS, wSet, wSetO, wSetN, wSetC, wSetIx, wSetI, wSetBx, wSetB, wAug, wApp, wAsg, wPar, wNilO, wConsO, wConsN, wL2N, putR, noUn, wVar, wC, wNil, wCons, wTup, wLst, wFz, wOp, wB, wAnd, wOr, wNot, wAndV, wOrV, wNotV, wIf, wNeg, wCB, wCL, wCallD, wRetB, wIsi, wSl, wNoPart, wPart, wRev, wFrz, wLend, wLendT, wLendL, muW, wFor, wSeq, wRange1, wRange2, wLc, wipeR, wgName, wgTup, wgCons, wgNil, startR, wJoin, wZip, wEnum, wEnumA, wDisp1, wDGet2, wBrk, wCnt, wIxOx, wIxO, wPopSet, wPopAt, wPopAtSet, popAtW, wExt, wSet2, xE, xT, xA, xCons, xTup, xLst, xFz, xOp, xB, xNot, xAnd, xOr, xSl, xCB, xCallD, xCallX, xCallL, xRet, xDrop, xIfS, xSet, xAsg, wRaise, wTry, wHandle, outPs, wXf, wXis, wChain, wCat, wLm, gCnt, ev_addI, ev_addS, ev_addT, ev_addL, ev_mulI, ev_I, ev_I0, ev_ltI, ev_ltS, ev_ge, ev_eqI, ev_eqS, ev_eqB, ev_p0, ev_p1, ev_p2, ev_lenL, ev_lenT, ev_lenS, ev_lenQ, ev_lenK, ev_tupL, ev_tupT, ev_lisL, ev_lisT, ev_intI, ev_intB, ev_max2, ev_min2, ev_repr, ev_reprB, ev_reprT, ev_eqRp, ev_slL, ev_slT, ev_slS, ev_seqL, ev_seqT, ev_seqS, ev_inL, ev_inT, ev_isB, ev_dO, ev_dat0, ev_dat1, ev_dat2, ev_dat3, ev_dat4, ev_dat5, ev_dat8, ev_i0, ev_i1, ev_i2, ev_l0, ev_l1, ev_l2, dats, List.zip_cons_cons, List.zip_nil_right, List.zip_nil_left, List.reverse_singleton, List.reverse_cons, List.reverse_nil, wYes, List.getElem?_cons_zero, List.getElem?_cons_succ, List.set_cons_zero, List.set_cons_succ, List.map_cons, List.map_nil, List.cons_append, List.nil_append, List.append_nil, List.replicate, List.length_cons, List.length_nil, Nat.reduceAdd, Nat.reduceSub, Option.some.injEq, List.append_eq, Nat.zero_add, exists_eq', exists_eq_left', Sl.mu.injEq, Mu.l.injEq, Sl.sh.injEq, W.p.injEq, true_and, and_true, or_true, true_or, ite_true, ite_false, if_true, if_false, Bool.false_eq_true, decide_eq_true_eq, List.length_map]
    try simp only [wSeq2, wNext, wRet, wDrop, wIfS, wSet, wSetO, wSetN, wSetC, wSetIx, wSetI, wSetBx, wSetB, wAug, wApp, wAsg, wPar, wNilO, wConsO, wConsN, wL2N, putR, noUn, wVar, wC, wNil, wCons, wTup, wLst, wFz, wOp, wB, wAnd, wOr, wNot, wAndV, wOrV, wNotV, wIf, wNeg, wCB, wCL, wCallD, wRetB, wIsi, wSl, wNoPart, wPart, wRev, wFrz, wLend, wLendT, wLendL, muW, wFor, wSeq, wRange1, wRange2, wLc, wipeR, wgName, wgTup, wgCons, wgNil, startR, wJoin, wZip, wEnum, wEnumA, wDisp1, wDGet2, wBrk, wCnt, wIxOx, wIxO, wPopSet, wPopAt, wPopAtSet, popAtW, wExt, wSet2, xE, xT, xA, xCons, xTup, xLst, xFz, xOp, xB, xNot, xAnd, xOr, xSl, xCB, xCallD, xCallX, xCallL, xRet, xDrop, xIfS, xSet, xAsg, wRaise, wTry, wHandle, outPs, wXf, wXis, wChain, wCat, wLm, gCnt, ev_addI, ev_addS, ev_addT, ev_addL, ev_mulI, ev_I, ev_I0, ev_ltI, ev_ltS, ev_ge, ev_eqI, ev_eqS, ev_eqB, ev_p0, ev_p1, ev_p2, ev_lenL, ev_lenT, ev_lenS, ev_lenQ, ev_lenK, ev_tupL, ev_tupT, ev_lisL, ev_lisT, ev_intI, ev_intB, ev_max2, ev_min2, ev_repr, ev_reprB, ev_reprT, ev_eqRp, ev_slL, ev_slT, ev_slS, ev_seqL, ev_seqT, ev_seqS, ev_inL, ev_inT, ev_isB, ev_dO, ev_dat0, ev_dat1, ev_dat2, ev_dat3, ev_dat4, ev_dat5, ev_dat8, ev_i0, ev_i1, ev_i2, ev_l0, ev_l1, ev_l2, dats, List.zip_cons_cons, List.zip_nil_right, List.zip_nil_left, List.reverse_singleton, List.reverse_cons, List.reverse_nil, wYes, List.getElem?_cons_zero, List.getElem?_cons_succ, List.set_cons_zero, List.set_cons_succ, List.map_cons, List.map_nil, List.cons_append, List.nil_append, List.append_nil, List.replicate, List.length_cons, List.length_nil, Nat.reduceAdd, Nat.reduceSub, Option.some.injEq, List.append_eq, Nat.zero_add, exists_eq', exists_eq_left', Sl.mu.injEq, Mu.l.injEq, Sl.sh.injEq, W.p.injEq, true_and, and_true, or_true, true_or, ite_true, ite_false, if_true, if_false, Bool.false_eq_true, decide_eq_true_eq, List.length_map]
    simp only at q
    by_cases h1 : 1 ≤ rs.length
    · rw [if_pos (by omega)]
      by_cases h2 : rs.length ≤ 8
      · rw [decide_eq_true (show (rs.length : Int) ≤ 8 by omega), if_neg (by decide)]
        simp only [if_pos (show 1 ≤ rs.length ∧ rs.length ≤ 8 from ⟨h1, h2⟩)] at q
        by_cases h3 : 12 < ds.length
        · rw [if_pos (by omega)]
          simp only [if_pos h3] at q
          exact q
        · rw [if_neg (by omega)]
          simp only [if_neg h3] at q
          refine ⟨rs, rfl, ?_⟩
          cases hr : roomsOut rs with
          | some r =>
            rw [hr] at q
            exact q
          | none =>
            rw [hr] at q
            refine ⟨rs, ds, rfl, ?_⟩
            cases hd : doorsOut rs ds with
            | some r =>
              rw [hd] at q
              exact q
            | none =>
              rw [hd] at q
              exact q
      · rw [decide_eq_false (show ¬ (rs.length : Int) ≤ 8 by omega), if_pos (by decide)]
        simp only [if_neg (show ¬ (1 ≤ rs.length ∧ rs.length ≤ 8) from fun h => h2 h.2)] at q
        exact q
    · rw [if_neg (by omega), if_pos (by decide)]
      simp only [if_neg (show ¬ (1 ≤ rs.length ∧ rs.length ≤ 8) from fun h => h1 h.1)] at q
      exact q
end Pd
end

section
set_option Elab.async false
set_option linter.all false
set_option maxRecDepth 100000
set_option autoImplicit false
set_option maxHeartbeats 4000000
namespace Pd
open PySem PySem.Spec PyProof.Rows L2
def n_law_state : List Str := ["box", "hall", "walkers", "names", "known", "faces", "pools", "titles", "places", "door", "name"]
def w_law_state (F_law_take : FW) (F_law_names : FW) : WS :=
    (wSeq2 (wAsg (wVar 1) (wgTup 2 (wgCons (wgName 3) (wgCons (wgName 4) wgNil))))
    (wSeq2 (wSet 5 (wCB oTuple (wCons (wFz (wLc (wSeq (wVar 4)) (wgName 9) wYes (wOp oIx (wVar 9) (wOp oAdd (wC (.d (.int 1))) (wCallD F_law_take (wCons (wVar 0) (wCons (wC (.d (.int 2))) wNil))))) [9])) wNil)))
    (wSeq2 (wSet 6 (wFz (wLst (wCons (wCallD F_law_names (wCons (wVar 0) (wCons (wC (.d (.int 5))) wNil))) (wCons (wFz (wCL oList (wCons (wVar 3) wNil))) (wCons (wFz (wLc (wSeq (wVar 4)) (wgName 9) wYes (wOp oIx (wVar 9) (wC (.d (.int 0)))) [9])) wNil))))))
    (wSeq2 (wSet 7 (wFz (wCL oSortS (wCons (wSl (wOp oIx (wVar 6) (wCB oMax2 (wCons (wC (.d (.int 0))) (wCons (wOp (oI0 fun i j => i - j) (wCallD F_law_take (wCons (wVar 0) (wCons (wC (.d (.int 6))) wNil))) (wC (.d (.int 3)))) wNil)))) wNoPart (wPart (wCallD F_law_take (wCons (wVar 0) (wCons (wOp oAdd (wVar 2) (wC (.d (.int 1)))) wNil))))) wNil))))
    (wSeq2 (wSet 8 (wCB oTuple (wCons (wFz (wLc (wSeq (wVar 7)) (wgName 10) wYes (wTup (wCons (wVar 10) (wCons (wOp oIx (wVar 3) (wCallD F_law_take (wCons (wVar 0) (wCons (wCB oLen (wCons (wVar 3) wNil)) wNil)))) wNil))) [10])) wNil)))
    (wRet (wTup (wCons (wVar 5) (wCons (wVar 8) wNil)))))))))
end Pd
end

section
set_option Elab.async false
set_option linter.all false
set_option maxRecDepth 100000
set_option autoImplicit false
set_option maxHeartbeats 4000000
namespace Pd
open PySem PySem.Spec PyProof.Rows L2
/-! ### states -/
def placeD (p : Str × Str) : D := .tuple [.str p.1, .str p.2]
def stateD (faces : List Str) (places : List (Str × Str)) : D := .tuple [.tuple (faces.map PyData.str), .tuple (places.map placeD)]
structure StateOk (names : List Str) (doors : List Door) (m : Nat) (faces : List Str) (places : List (Str × Str)) : Prop where
  fl : faces.length = doors.length
  fc : ∀ (i : Nat) p f, doors[i]? = some p → faces[i]? = some f → f = p.2.1 ∨ f = p.2.2
  pl : places.length ≤ m
  wk : ∀ p ∈ places, NameOk p.1
  rm : ∀ p ∈ places, p.2 ∈ names
  nd : (places.map (·.1)).Nodup
  so : sortedS (places.map (·.1)) = true
theorem StateOk.fm {names : List Str} {doors : List Door} {m : Nat} {faces : List Str} {places : List (Str × Str)} (h : StateOk names doors m faces places) (hd : ∀ p ∈ doors, DoorOk names p) : ∀ f ∈ faces, f ∈ names := fun f hf => by
  obtain ⟨i, hi, e⟩ := List.mem_iff_getElem.mp hf
  have hi2 : i < doors.length := h.fl ▸ hi
  have hp := hd doors[i] (List.getElem_mem hi2)
  rcases h.fc i doors[i] f (List.getElem?_eq_getElem hi2) (by rw [List.getElem?_eq_getElem hi, e]) with z | z
  · rw [z]; exact hp.one
  · rw [z]; exact hp.two
def F_law_state : FW := fun ws Φ => ∃ (a : Addr) (names : List Str) (doors : List Door) (m : Nat), ws = [.p a, .d (hallD names doors), .d (.int m)] ∧ HallOk 26 26 names doors ∧ m ≤ 20 ∧ ∀ faces places, StateOk names doors m faces places → Φ (.d (stateD faces places))
theorem l_law_state (ws : List W) (Φ : W → Prop) (h : F_law_state ws Φ) : ws.length = 3 := by
  obtain ⟨_, _, _, _, rfl, _⟩ := h
  rfl
theorem m_law_state (ws : List W) (Φ : W → Prop) (h : F_law_state ws Φ) : w_law_state F_law_take F_law_names (startR n_law_state ws) ⟨fun _ => Φ (.d .none), Φ, fun _ => False, fun _ => False, fun _ _ => False⟩ := by
  obtain ⟨a, names, doors, m, rfl, ok, hm, q⟩ := h
  have hl1 := ok.len
  have hl2 := ok.dlen
  have hp := ok.pos
  simp only [w_law_state, n_law_state, hallD, wSeq2, wNext, wRet, wDrop, wIfS, wSet, wSetO, wSetN, wSetC, wSetIx, wSetI, wSetBx, wSetB, wAug, wApp, wAsg, wPar, wNilO, wConsO, wConsN, wL2N, putR, noUn, wVar, wC, wNil, wCons, wTup, wLst, wFz, wOp, wB, wAnd, wOr, wNot, wAndV, wOrV, wNotV, wIf, wNeg, wCB, wCL, wCallD, wRetB, wIsi, wSl, wNoPart, wPart, wRev, wFrz, wLend, wLendT, wLendL, muW, wFor, wSeq, wRange1, wRange2, wLc, wipeR, wgName, wgTup, wgCons, wgNil, startR, wJoin, wZip, wEnum, wEnumA, wDisp1, wDGet2, wBrk, wCnt, wIxOx, wIxO, wPopSet, wPopAt, wPopAtSet, popAtW, wExt, wSet2, xE, xT, xA, xCons, xTup, xLst, xFz, xOp, xB, xNot, xAnd, xOr, xSl, xCB, xCallD, xCallX, xCallL, xRet, xDrop, xIfS, xSet, xAsg, wRaise, wTry, wHandle, outPs, wXf, wXis, wChain, wCat, wLm, gCnt, ev_addI, ev_addS, ev_addT, ev_addL, ev_mulI, ev_I, ev_I0, ev_ltI, ev_ltS, ev_ge, ev_eqI, ev_eqS, ev_eqB, ev_p0, ev_p1, ev_p2, ev_lenL, ev_lenT, ev_lenS, ev_lenQ, ev_lenK, ev_tupL, ev_tupT, ev_lisL, ev_lisT, ev_intI, ev_intB, ev_max2, ev_min2, ev_repr, ev_reprB, ev_reprT, ev_eqRp, ev_slL, ev_slT, ev_slS, ev_seqL, ev_seqT, ev_seqS, ev_inL, ev_inT, ev_isB, ev_dO, ev_dat0, ev_dat1, ev_dat2, ev_dat3, ev_dat4, ev_dat5, ev_dat8, ev_i0, ev_i1, ev_i2, ev_l0, ev_l1, ev_l2, dats, List.zip_cons_cons, List.zip_nil_right, List.zip_nil_left, List.reverse_singleton, List.reverse_cons, List.reverse_nil, wYes, List.getElem?_cons_zero, List.getElem?_cons_succ, List.set_cons_zero, List.set_cons_succ, List.map_cons, List.map_nil, List.cons_append, List.nil_append, List.append_nil, List.replicate, List.length_cons, List.length_nil, Nat.reduceAdd, Nat.reduceSub, Option.some.injEq, List.append_eq, Nat.zero_add, exists_eq', exists_eq_left', Sl.mu.injEq, Mu.l.injEq, Sl.sh.injEq, W.p.injEq, true_and, and_true, or_true, true_or, ite_true, ite_false, if_true, if_false, Bool.false_eq_true, decide_eq_true_eq]
  refine compW_inv (fun n acc => ∃ fs : List Str, acc = fs.map PyData.str ∧ fs.length = n ∧ ∀ (i : Nat) p f, doors[i]? = some p → fs[i]? = some f → f = p.2.1 ∨ f = p.2.2) 0 ⟨[], rfl, rfl, fun i p f _ h => by simp at h⟩ (fun i d acc C hd hI hC => ?_) fun acc hI => ?_
  · obtain ⟨fs, rfl, hl, hf⟩ := hI
    rw [List.getElem?_map] at hd
    cases e : doors[i]? with
    | none => rw [e] at hd; cases hd
    | some p =>
      rw [e] at hd
      cases hd
      simp only [doorD, wSeq2, wNext, wRet, wDrop, wIfS, wSet, wSetO, wSetN, wSetC, wSetIx, wSetI, wSetBx, wSetB, wAug, wApp, wAsg, wPar, wNilO, wConsO, wConsN, wL2N, putR, noUn, wVar, wC, wNil, wCons, wTup, wLst, wFz, wOp, wB, wAnd, wOr, wNot, wAndV, wOrV, wNotV, wIf, wNeg, wCB, wCL, wCallD, wRetB, wIsi, wSl, wNoPart, wPart, wRev, wFrz, wLend, wLendT, wLendL, muW, wFor, wSeq, wRange1, wRange2, wLc, wipeR, wgName, wgTup, wgCons, wgNil, startR, wJoin, wZip, wEnum, wEnumA, wDisp1, wDGet2, wBrk, wCnt, wIxOx, wIxO, wPopSet, wPopAt, wPopAtSet, popAtW, wExt, wSet2, xE, xT, xA, xCons, xTup, xLst, xFz, xOp, xB, xNot, xAnd, xOr, xSl, xCB, xCallD, xCallX, xCallL, xRet, xDrop, xIfS, xSet, xAsg, wRaise, wTry, wHandle, outPs, wXf, wXis, wChain, wCat, wLm, gCnt, ev_addI, ev_addS, ev_addT, ev_addL, ev_mulI, ev_I, ev_I0, ev_ltI, ev_ltS, ev_ge, ev_eqI, ev_eqS, ev_eqB, ev_p0, ev_p1, ev_p2, ev_lenL, ev_lenT, ev_lenS, ev_lenQ, ev_lenK, ev_tupL, ev_tupT, ev_lisL, ev_lisT, ev_intI, ev_intB, ev_max2, ev_min2, ev_repr, ev_reprB, ev_reprT, ev_eqRp, ev_slL, ev_slT, ev_slS, ev_seqL, ev_seqT, ev_seqS, ev_inL, ev_inT, ev_isB, ev_dO, ev_dat0, ev_dat1, ev_dat2, ev_dat3, ev_dat4, ev_dat5, ev_dat8, ev_i0, ev_i1, ev_i2, ev_l0, ev_l1, ev_l2, dats, List.zip_cons_cons, List.zip_nil_right, List.zip_nil_left, List.reverse_singleton, List.reverse_cons, List.reverse_nil, wYes, List.getElem?_cons_zero, List.getElem?_cons_succ, List.set_cons_zero, List.set_cons_succ, List.map_cons, List.map_nil, List.cons_append, List.nil_append, List.append_nil, List.replicate, List.length_cons, List.length_nil, Nat.reduceAdd, Nat.reduceSub, Option.some.injEq, List.append_eq, Nat.zero_add, exists_eq', exists_eq_left', Sl.mu.injEq, Mu.l.injEq, Sl.sh.injEq, W.p.injEq, true_and, and_true, or_true, true_or, ite_true, ite_false, if_true, if_false, Bool.false_eq_true, decide_eq_true_eq]
      refine r_take (by decide) (by decide) fun z hz0 hz1 => ?_
      simp only [wSeq2, wNext, wRet, wDrop, wIfS, wSet, wSetO, wSetN, wSetC, wSetIx, wSetI, wSetBx, wSetB, wAug, wApp, wAsg, wPar, wNilO, wConsO, wConsN, wL2N, putR, noUn, wVar, wC, wNil, wCons, wTup, wLst, wFz, wOp, wB, wAnd, wOr, wNot, wAndV, wOrV, wNotV, wIf, wNeg, wCB, wCL, wCallD, wRetB, wIsi, wSl, wNoPart, wPart, wRev, wFrz, wLend, wLendT, wLendL, muW, wFor, wSeq, wRange1, wRange2, wLc, wipeR, wgName, wgTup, wgCons, wgNil, startR, wJoin, wZip, wEnum, wEnumA, wDisp1, wDGet2, wBrk, wCnt, wIxOx, wIxO, wPopSet, wPopAt, wPopAtSet, popAtW, wExt, wSet2, xE, xT, xA, xCons, xTup, xLst, xFz, xOp, xB, xNot, xAnd, xOr, xSl, xCB, xCallD, xCallX, xCallL, xRet, xDrop, xIfS, xSet, xAsg, wRaise, wTry, wHandle, outPs, wXf, wXis, wChain, wCat, wLm, gCnt, ev_addI, ev_addS, ev_addT, ev_addL, ev_mulI, ev_I, ev_I0, ev_ltI, ev_ltS, ev_ge, ev_eqI, ev_eqS, ev_eqB, ev_p0, ev_p1, ev_p2, ev_lenL, ev_lenT, ev_lenS, ev_lenQ, ev_lenK, ev_tupL, ev_tupT, ev_lisL, ev_lisT, ev_intI, ev_intB, ev_max2, ev_min2, ev_repr, ev_reprB, ev_reprT, ev_eqRp, ev_slL, ev_slT, ev_slS, ev_seqL, ev_seqT, ev_seqS, ev_inL, ev_inT, ev_isB, ev_dO, ev_dat0, ev_dat1, ev_dat2, ev_dat3, ev_dat4, ev_dat5, ev_dat8, ev_i0, ev_i1, ev_i2, ev_l0, ev_l1, ev_l2, dats, List.zip_cons_cons, List.zip_nil_right, List.zip_nil_left, List.reverse_singleton, List.reverse_cons, List.reverse_nil, wYes, List.getElem?_cons_zero, List.getElem?_cons_succ, List.set_cons_zero, List.set_cons_succ, List.map_cons, List.map_nil, List.cons_append, List.nil_append, List.append_nil, List.replicate, List.length_cons, List.length_nil, Nat.reduceAdd, Nat.reduceSub, Option.some.injEq, List.append_eq, Nat.zero_add, exists_eq', exists_eq_left', Sl.mu.injEq, Mu.l.injEq, Sl.sh.injEq, W.p.injEq, true_and, and_true, or_true, true_or, ite_true, ite_false, if_true, if_false, Bool.false_eq_true, decide_eq_true_eq]
      have go : ∀ f : Str, (f = p.2.1 ∨ f = p.2.2) → C (fs.map PyData.str ++ [PyData.str f]) := fun f hfp => hC _ ⟨fs ++ [f], by rw [List.map_append]; rfl, by rw [List.length_append, hl]; rfl, fun j p' f' h1 h2 => by
        by_cases hj : j < fs.length
        · rw [List.getElem?_append_left hj] at h2
          exact hf j p' f' h1 h2
        · have hj2 : j = fs.length := by
            have := (List.getElem?_eq_some_iff.mp h2).1
            rw [List.length_append, List.length_singleton] at this
            omega
          subst hj2
          rw [List.getElem?_append_right (Nat.le_refl _), Nat.sub_self] at h2
          cases h2
          rw [hl, Nat.zero_add, e] at h1
          cases h1
          exact hfp⟩
      have hz : z = 0 ∨ z = 1 := by omega
      rcases hz with rfl | rfl
      · exact r_ixt (by decide) (by simp) fun d hd => by
          cases hd
          exact go _ (.inl rfl)
      · exact r_ixt (by decide) (by simp) fun d hd => by
          cases hd
          exact go _ (.inr rfl)
  obtain ⟨faces, rfl, hfl, hfc⟩ := hI
  rw [List.length_map, Nat.zero_add] at hfl
  try simp only [wSeq2, wNext, wRet, wDrop, wIfS, wSet, wSetO, wSetN, wSetC, wSetIx, wSetI, wSetBx, wSetB, wAug, wApp, wAsg, wPar, wNilO, wConsO, wConsN, wL2N, putR, noUn, wVar, wC, wNil, wCons, wTup, wLst, wFz, wOp, wB, wAnd, wOr, wNot, wAndV, wOrV, wNotV, wIf, wNeg, wCB, wCL, wCallD, wRetB, wIsi, wSl, wNoPart, wPart, wRev, wFrz, wLend, wLendT, wLendL, muW, wFor, wSeq, wRange1, wRange2, wLc, wipeR, wgName, wgTup, wgCons, wgNil, startR, wJoin, wZip, wEnum, wEnumA, wDisp1, wDGet2, wBrk, wCnt, wIxOx, wIxO, wPopSet, wPopAt, wPopAtSet, popAtW, wExt, wSet2, xE, xT, xA, xCons, xTup, xLst, xFz, xOp, xB, xNot, xAnd, xOr, xSl, xCB, xCallD, xCallX, xCallL, xRet, xDrop, xIfS, xSet, xAsg, wRaise, wTry, wHandle, outPs, wXf, wXis, wChain, wCat, wLm, gCnt, ev_addI, ev_addS, ev_addT, ev_addL, ev_mulI, ev_I, ev_I0, ev_ltI, ev_ltS, ev_ge, ev_eqI, ev_eqS, ev_eqB, ev_p0, ev_p1, ev_p2, ev_lenL, ev_lenT, ev_lenS, ev_lenQ, ev_lenK, ev_tupL, ev_tupT, ev_lisL, ev_lisT, ev_intI, ev_intB, ev_max2, ev_min2, ev_repr, ev_reprB, ev_reprT, ev_eqRp, ev_slL, ev_slT, ev_slS, ev_seqL, ev_seqT, ev_seqS, ev_inL, ev_inT, ev_isB, ev_dO, ev_dat0, ev_dat1, ev_dat2, ev_dat3, ev_dat4, ev_dat5, ev_dat8, ev_i0, ev_i1, ev_i2, ev_l0, ev_l1, ev_l2, dats, List.zip_cons_cons, List.zip_nil_right, List.zip_nil_left, List.reverse_singleton, List.reverse_cons, List.reverse_nil, wYes, List.getElem?_cons_zero, List.getElem?_cons_succ, List.set_cons_zero, List.set_cons_succ, List.map_cons, List.map_nil, List.cons_append, List.nil_append, List.append_nil, List.replicate, List.length_cons, List.length_nil, Nat.reduceAdd, Nat.reduceSub, Option.some.injEq, List.append_eq, Nat.zero_add, exists_eq', exists_eq_left', Sl.mu.injEq, Mu.l.injEq, Sl.sh.injEq, W.p.injEq, true_and, and_true, or_true, true_or, ite_true, ite_false, if_true, if_false, Bool.false_eq_true, decide_eq_true_eq]
  refine r_names (by decide) (by decide) fun ns hns nn => ?_
  simp only [wSeq2, wNext, wRet, wDrop, wIfS, wSet, wSetO, wSetN, wSetC, wSetIx, wSetI, wSetBx, wSetB, wAug, wApp, wAsg, wPar, wNilO, wConsO, wConsN, wL2N, putR, noUn, wVar, wC, wNil, wCons, wTup, wLst, wFz, wOp, wB, wAnd, wOr, wNot, wAndV, wOrV, wNotV, wIf, wNeg, wCB, wCL, wCallD, wRetB, wIsi, wSl, wNoPart, wPart, wRev, wFrz, wLend, wLendT, wLendL, muW, wFor, wSeq, wRange1, wRange2, wLc, wipeR, wgName, wgTup, wgCons, wgNil, startR, wJoin, wZip, wEnum, wEnumA, wDisp1, wDGet2, wBrk, wCnt, wIxOx, wIxO, wPopSet, wPopAt, wPopAtSet, popAtW, wExt, wSet2, xE, xT, xA, xCons, xTup, xLst, xFz, xOp, xB, xNot, xAnd, xOr, xSl, xCB, xCallD, xCallX, xCallL, xRet, xDrop, xIfS, xSet, xAsg, wRaise, wTry, wHandle, outPs, wXf, wXis, wChain, wCat, wLm, gCnt, ev_addI, ev_addS, ev_addT, ev_addL, ev_mulI, ev_I, ev_I0, ev_ltI, ev_ltS, ev_ge, ev_eqI, ev_eqS, ev_eqB, ev_p0, ev_p1, ev_p2, ev_lenL, ev_lenT, ev_lenS, ev_lenQ, ev_lenK, ev_tupL, ev_tupT, ev_lisL, ev_lisT, ev_intI, ev_intB, ev_max2, ev_min2, ev_repr, ev_reprB, ev_reprT, ev_eqRp, ev_slL, ev_slT, ev_slS, ev_seqL, ev_seqT, ev_seqS, ev_inL, ev_inT, ev_isB, ev_dO, ev_dat0, ev_dat1, ev_dat2, ev_dat3, ev_dat4, ev_dat5, ev_dat8, ev_i0, ev_i1, ev_i2, ev_l0, ev_l1, ev_l2, dats, List.zip_cons_cons, List.zip_nil_right, List.zip_nil_left, List.reverse_singleton, List.reverse_cons, List.reverse_nil, wYes, List.getElem?_cons_zero, List.getElem?_cons_succ, List.set_cons_zero, List.set_cons_succ, List.map_cons, List.map_nil, List.cons_append, List.nil_append, List.append_nil, List.replicate, List.length_cons, List.length_nil, Nat.reduceAdd, Nat.reduceSub, Option.some.injEq, List.append_eq, Nat.zero_add, exists_eq', exists_eq_left', Sl.mu.injEq, Mu.l.injEq, Sl.sh.injEq, W.p.injEq, true_and, and_true, or_true, true_or, ite_true, ite_false, if_true, if_false, Bool.false_eq_true, decide_eq_true_eq]
  refine compW_mp (g := fun p : Door => PyData.str p.1) doors (fun p _ acc C c => ?_) ?_
  · simp only [doorD, wSeq2, wNext, wRet, wDrop, wIfS, wSet, wSetO, wSetN, wSetC, wSetIx, wSetI, wSetBx, wSetB, wAug, wApp, wAsg, wPar, wNilO, wConsO, wConsN, wL2N, putR, noUn, wVar, wC, wNil, wCons, wTup, wLst, wFz, wOp, wB, wAnd, wOr, wNot, wAndV, wOrV, wNotV, wIf, wNeg, wCB, wCL, wCallD, wRetB, wIsi, wSl, wNoPart, wPart, wRev, wFrz, wLend, wLendT, wLendL, muW, wFor, wSeq, wRange1, wRange2, wLc, wipeR, wgName, wgTup, wgCons, wgNil, startR, wJoin, wZip, wEnum, wEnumA, wDisp1, wDGet2, wBrk, wCnt, wIxOx, wIxO, wPopSet, wPopAt, wPopAtSet, popAtW, wExt, wSet2, xE, xT, xA, xCons, xTup, xLst, xFz, xOp, xB, xNot, xAnd, xOr, xSl, xCB, xCallD, xCallX, xCallL, xRet, xDrop, xIfS, xSet, xAsg, wRaise, wTry, wHandle, outPs, wXf, wXis, wChain, wCat, wLm, gCnt, ev_addI, ev_addS, ev_addT, ev_addL, ev_mulI, ev_I, ev_I0, ev_ltI, ev_ltS, ev_ge, ev_eqI, ev_eqS, ev_eqB, ev_p0, ev_p1, ev_p2, ev_lenL, ev_lenT, ev_lenS, ev_lenQ, ev_lenK, ev_tupL, ev_tupT, ev_lisL, ev_lisT, ev_intI, ev_intB, ev_max2, ev_min2, ev_repr, ev_reprB, ev_reprT, ev_eqRp, ev_slL, ev_slT, ev_slS, ev_seqL, ev_seqT, ev_seqS, ev_inL, ev_inT, ev_isB, ev_dO, ev_dat0, ev_dat1, ev_dat2, ev_dat3, ev_dat4, ev_dat5, ev_dat8, ev_i0, ev_i1, ev_i2, ev_l0, ev_l1, ev_l2, dats, List.zip_cons_cons, List.zip_nil_right, List.zip_nil_left, List.reverse_singleton, List.reverse_cons, List.reverse_nil, wYes, List.getElem?_cons_zero, List.getElem?_cons_succ, List.set_cons_zero, List.set_cons_succ, List.map_cons, List.map_nil, List.cons_append, List.nil_append, List.append_nil, List.replicate, List.length_cons, List.length_nil, Nat.reduceAdd, Nat.reduceSub, Option.some.injEq, List.append_eq, Nat.zero_add, exists_eq', exists_eq_left', Sl.mu.injEq, Mu.l.injEq, Sl.sh.injEq, W.p.injEq, true_and, and_true, or_true, true_or, ite_true, ite_false, if_true, if_false, Bool.false_eq_true, decide_eq_true_eq]
    exact c
  refine r_take (by decide) (by decide) fun z hz0 hz1 => ?_
  simp only [wSeq2, wNext, wRet, wDrop, wIfS, wSet, wSetO, wSetN, wSetC, wSetIx, wSetI, wSetBx, wSetB, wAug, wApp, wAsg, wPar, wNilO, wConsO, wConsN, wL2N, putR, noUn, wVar, wC, wNil, wCons, wTup, wLst, wFz, wOp, wB, wAnd, wOr, wNot, wAndV, wOrV, wNotV, wIf, wNeg, wCB, wCL, wCallD, wRetB, wIsi, wSl, wNoPart, wPart, wRev, wFrz, wLend, wLendT, wLendL, muW, wFor, wSeq, wRange1, wRange2, wLc, wipeR, wgName, wgTup, wgCons, wgNil, startR, wJoin, wZip, wEnum, wEnumA, wDisp1, wDGet2, wBrk, wCnt, wIxOx, wIxO, wPopSet, wPopAt, wPopAtSet, popAtW, wExt, wSet2, xE, xT, xA, xCons, xTup, xLst, xFz, xOp, xB, xNot, xAnd, xOr, xSl, xCB, xCallD, xCallX, xCallL, xRet, xDrop, xIfS, xSet, xAsg, wRaise, wTry, wHandle, outPs, wXf, wXis, wChain, wCat, wLm, gCnt, ev_addI, ev_addS, ev_addT, ev_addL, ev_mulI, ev_I, ev_I0, ev_ltI, ev_ltS, ev_ge, ev_eqI, ev_eqS, ev_eqB, ev_p0, ev_p1, ev_p2, ev_lenL, ev_lenT, ev_lenS, ev_lenQ, ev_lenK, ev_tupL, ev_tupT, ev_lisL, ev_lisT, ev_intI, ev_intB, ev_max2, ev_min2, ev_repr, ev_reprB, ev_reprT, ev_eqRp, ev_slL, ev_slT, ev_slS, ev_seqL, ev_seqT, ev_seqS, ev_inL, ev_inT, ev_isB, ev_dO, ev_dat0, ev_dat1, ev_dat2, ev_dat3, ev_dat4, ev_dat5, ev_dat8, ev_i0, ev_i1, ev_i2, ev_l0, ev_l1, ev_l2, dats, List.zip_cons_cons, List.zip_nil_right, List.zip_nil_left, List.reverse_singleton, List.reverse_cons, List.reverse_nil, wYes, List.getElem?_cons_zero, List.getElem?_cons_succ, List.set_cons_zero, List.set_cons_succ, List.map_cons, List.map_nil, List.cons_append, List.nil_append, List.append_nil, List.replicate, List.length_cons, List.length_nil, Nat.reduceAdd, Nat.reduceSub, Option.some.injEq, List.append_eq, Nat.zero_add, exists_eq', exists_eq_left', Sl.mu.injEq, Mu.l.injEq, Sl.sh.injEq, W.p.injEq, true_and, and_true, or_true, true_or, ite_true, ite_false, if_true, if_false, Bool.false_eq_true, decide_eq_true_eq]
  have et : doors.map (fun p : Door => PyData.str p.1) = (doors.map (·.1)).map PyData.str := by rw [List.map_map]; rfl
  rw [et]
  refine r_ixl (by split <;> omega) (by simp; split <;> omega) fun d hd => ?_
  obtain ⟨xs, rfl, hxok, hxnd, hxl⟩ : ∃ xs : List Str, d = .list (xs.map PyData.str) ∧ (∀ x ∈ xs, NameOk x) ∧ xs.Nodup ∧ xs.length ≤ 26 := by
    have := List.mem_of_getElem? hd
    simp only [List.mem_cons, List.not_mem_nil, or_false] at this
    rcases this with rfl | rfl | rfl
    · exact ⟨_, rfl, nn.ok, nn.nd, by omega⟩
    · exact ⟨_, rfl, ok.nm.ok, ok.nm.nd, by omega⟩
    · exact ⟨_, rfl, fun x hx => by
        obtain ⟨p, hp, rfl⟩ := List.mem_map.mp hx
        exact (ok.drs p hp).ok, ok.nd, by rw [List.length_map]; omega⟩
  refine r_take (by omega) (by omega) fun t ht0 ht1 => ?_
  simp only [wSeq2, wNext, wRet, wDrop, wIfS, wSet, wSetO, wSetN, wSetC, wSetIx, wSetI, wSetBx, wSetB, wAug, wApp, wAsg, wPar, wNilO, wConsO, wConsN, wL2N, putR, noUn, wVar, wC, wNil, wCons, wTup, wLst, wFz, wOp, wB, wAnd, wOr, wNot, wAndV, wOrV, wNotV, wIf, wNeg, wCB, wCL, wCallD, wRetB, wIsi, wSl, wNoPart, wPart, wRev, wFrz, wLend, wLendT, wLendL, muW, wFor, wSeq, wRange1, wRange2, wLc, wipeR, wgName, wgTup, wgCons, wgNil, startR, wJoin, wZip, wEnum, wEnumA, wDisp1, wDGet2, wBrk, wCnt, wIxOx, wIxO, wPopSet, wPopAt, wPopAtSet, popAtW, wExt, wSet2, xE, xT, xA, xCons, xTup, xLst, xFz, xOp, xB, xNot, xAnd, xOr, xSl, xCB, xCallD, xCallX, xCallL, xRet, xDrop, xIfS, xSet, xAsg, wRaise, wTry, wHandle, outPs, wXf, wXis, wChain, wCat, wLm, gCnt, ev_addI, ev_addS, ev_addT, ev_addL, ev_mulI, ev_I, ev_I0, ev_ltI, ev_ltS, ev_ge, ev_eqI, ev_eqS, ev_eqB, ev_p0, ev_p1, ev_p2, ev_lenL, ev_lenT, ev_lenS, ev_lenQ, ev_lenK, ev_tupL, ev_tupT, ev_lisL, ev_lisT, ev_intI, ev_intB, ev_max2, ev_min2, ev_repr, ev_reprB, ev_reprT, ev_eqRp, ev_slL, ev_slT, ev_slS, ev_seqL, ev_seqT, ev_seqS, ev_inL, ev_inT, ev_isB, ev_dO, ev_dat0, ev_dat1, ev_dat2, ev_dat3, ev_dat4, ev_dat5, ev_dat8, ev_i0, ev_i1, ev_i2, ev_l0, ev_l1, ev_l2, dats, List.zip_cons_cons, List.zip_nil_right, List.zip_nil_left, List.reverse_singleton, List.reverse_cons, List.reverse_nil, wYes, List.getElem?_cons_zero, List.getElem?_cons_succ, List.set_cons_zero, List.set_cons_succ, List.map_cons, List.map_nil, List.cons_append, List.nil_append, List.append_nil, List.replicate, List.length_cons, List.length_nil, Nat.reduceAdd, Nat.reduceSub, Option.some.injEq, List.append_eq, Nat.zero_add, exists_eq', exists_eq_left', Sl.mu.injEq, Mu.l.injEq, Sl.sh.injEq, W.p.injEq, true_and, and_true, or_true, true_or, ite_true, ite_false, if_true, if_false, Bool.false_eq_true, decide_eq_true_eq]
  have ec : cutD (xs.map PyData.str) none (some t) = (xs.take t.toNat).map PyData.str := by rw [cutD_to ht0, List.map_take]
  rw [ec]
  unfold oSortS
  simp only [strsD_map]
  refine ⟨by rw [List.length_take]; omega, fun ys hperm hsort => ?_⟩
  have yl : ys.length ≤ m := by
    rw [hperm.length_eq, List.length_take]
    omega
  have yok : ∀ y ∈ ys, NameOk y := fun y hy => hxok y (List.mem_of_mem_take (hperm.mem_iff.mp hy))
  have ynd : ys.Nodup := hperm.nodup_iff.mpr (hxnd.sublist (List.take_sublist _ _))
  refine compW_inv (fun n acc => ∃ ps : List (Str × Str), acc = ps.map placeD ∧ ps.map (·.1) = ys.take n ∧ ∀ p ∈ ps, p.2 ∈ names) 0 ⟨[], rfl, rfl, by simp⟩ (fun i d acc C hd2 hI hC => ?_) fun acc hI => ?_
  · obtain ⟨ps, rfl, hps, hrm⟩ := hI
    rw [List.getElem?_map] at hd2
    cases e : ys[i]? with
    | none => rw [e] at hd2; cases hd2
    | some y =>
      rw [e] at hd2
      cases hd2
      simp only [wSeq2, wNext, wRet, wDrop, wIfS, wSet, wSetO, wSetN, wSetC, wSetIx, wSetI, wSetBx, wSetB, wAug, wApp, wAsg, wPar, wNilO, wConsO, wConsN, wL2N, putR, noUn, wVar, wC, wNil, wCons, wTup, wLst, wFz, wOp, wB, wAnd, wOr, wNot, wAndV, wOrV, wNotV, wIf, wNeg, wCB, wCL, wCallD, wRetB, wIsi, wSl, wNoPart, wPart, wRev, wFrz, wLend, wLendT, wLendL, muW, wFor, wSeq, wRange1, wRange2, wLc, wipeR, wgName, wgTup, wgCons, wgNil, startR, wJoin, wZip, wEnum, wEnumA, wDisp1, wDGet2, wBrk, wCnt, wIxOx, wIxO, wPopSet, wPopAt, wPopAtSet, popAtW, wExt, wSet2, xE, xT, xA, xCons, xTup, xLst, xFz, xOp, xB, xNot, xAnd, xOr, xSl, xCB, xCallD, xCallX, xCallL, xRet, xDrop, xIfS, xSet, xAsg, wRaise, wTry, wHandle, outPs, wXf, wXis, wChain, wCat, wLm, gCnt, ev_addI, ev_addS, ev_addT, ev_addL, ev_mulI, ev_I, ev_I0, ev_ltI, ev_ltS, ev_ge, ev_eqI, ev_eqS, ev_eqB, ev_p0, ev_p1, ev_p2, ev_lenL, ev_lenT, ev_lenS, ev_lenQ, ev_lenK, ev_tupL, ev_tupT, ev_lisL, ev_lisT, ev_intI, ev_intB, ev_max2, ev_min2, ev_repr, ev_reprB, ev_reprT, ev_eqRp, ev_slL, ev_slT, ev_slS, ev_seqL, ev_seqT, ev_seqS, ev_inL, ev_inT, ev_isB, ev_dO, ev_dat0, ev_dat1, ev_dat2, ev_dat3, ev_dat4, ev_dat5, ev_dat8, ev_i0, ev_i1, ev_i2, ev_l0, ev_l1, ev_l2, dats, List.zip_cons_cons, List.zip_nil_right, List.zip_nil_left, List.reverse_singleton, List.reverse_cons, List.reverse_nil, wYes, List.getElem?_cons_zero, List.getElem?_cons_succ, List.set_cons_zero, List.set_cons_succ, List.map_cons, List.map_nil, List.cons_append, List.nil_append, List.append_nil, List.replicate, List.length_cons, List.length_nil, Nat.reduceAdd, Nat.reduceSub, Option.some.injEq, List.append_eq, Nat.zero_add, exists_eq', exists_eq_left', Sl.mu.injEq, Mu.l.injEq, Sl.sh.injEq, W.p.injEq, true_and, and_true, or_true, true_or, ite_true, ite_false, if_true, if_false, Bool.false_eq_true, decide_eq_true_eq, List.length_map]
      refine r_take (by omega) (by omega) fun u hu0 hu1 => ?_
      simp only [wSeq2, wNext, wRet, wDrop, wIfS, wSet, wSetO, wSetN, wSetC, wSetIx, wSetI, wSetBx, wSetB, wAug, wApp, wAsg, wPar, wNilO, wConsO, wConsN, wL2N, putR, noUn, wVar, wC, wNil, wCons, wTup, wLst, wFz, wOp, wB, wAnd, wOr, wNot, wAndV, wOrV, wNotV, wIf, wNeg, wCB, wCL, wCallD, wRetB, wIsi, wSl, wNoPart, wPart, wRev, wFrz, wLend, wLendT, wLendL, muW, wFor, wSeq, wRange1, wRange2, wLc, wipeR, wgName, wgTup, wgCons, wgNil, startR, wJoin, wZip, wEnum, wEnumA, wDisp1, wDGet2, wBrk, wCnt, wIxOx, wIxO, wPopSet, wPopAt, wPopAtSet, popAtW, wExt, wSet2, xE, xT, xA, xCons, xTup, xLst, xFz, xOp, xB, xNot, xAnd, xOr, xSl, xCB, xCallD, xCallX, xCallL, xRet, xDrop, xIfS, xSet, xAsg, wRaise, wTry, wHandle, outPs, wXf, wXis, wChain, wCat, wLm, gCnt, ev_addI, ev_addS, ev_addT, ev_addL, ev_mulI, ev_I, ev_I0, ev_ltI, ev_ltS, ev_ge, ev_eqI, ev_eqS, ev_eqB, ev_p0, ev_p1, ev_p2, ev_lenL, ev_lenT, ev_lenS, ev_lenQ, ev_lenK, ev_tupL, ev_tupT, ev_lisL, ev_lisT, ev_intI, ev_intB, ev_max2, ev_min2, ev_repr, ev_reprB, ev_reprT, ev_eqRp, ev_slL, ev_slT, ev_slS, ev_seqL, ev_seqT, ev_seqS, ev_inL, ev_inT, ev_isB, ev_dO, ev_dat0, ev_dat1, ev_dat2, ev_dat3, ev_dat4, ev_dat5, ev_dat8, ev_i0, ev_i1, ev_i2, ev_l0, ev_l1, ev_l2, dats, List.zip_cons_cons, List.zip_nil_right, List.zip_nil_left, List.reverse_singleton, List.reverse_cons, List.reverse_nil, wYes, List.getElem?_cons_zero, List.getElem?_cons_succ, List.set_cons_zero, List.set_cons_succ, List.map_cons, List.map_nil, List.cons_append, List.nil_append, List.append_nil, List.replicate, List.length_cons, List.length_nil, Nat.reduceAdd, Nat.reduceSub, Option.some.injEq, List.append_eq, Nat.zero_add, exists_eq', exists_eq_left', Sl.mu.injEq, Mu.l.injEq, Sl.sh.injEq, W.p.injEq, true_and, and_true, or_true, true_or, ite_true, ite_false, if_true, if_false, Bool.false_eq_true, decide_eq_true_eq]
      refine r_ixt hu0 (by rw [List.length_map]; exact hu1) fun d hd3 => ?_
      obtain ⟨r, hr, rfl⟩ := List.mem_map.mp (List.mem_of_getElem? hd3)
      simp only [wSeq2, wNext, wRet, wDrop, wIfS, wSet, wSetO, wSetN, wSetC, wSetIx, wSetI, wSetBx, wSetB, wAug, wApp, wAsg, wPar, wNilO, wConsO, wConsN, wL2N, putR, noUn, wVar, wC, wNil, wCons, wTup, wLst, wFz, wOp, wB, wAnd, wOr, wNot, wAndV, wOrV, wNotV, wIf, wNeg, wCB, wCL, wCallD, wRetB, wIsi, wSl, wNoPart, wPart, wRev, wFrz, wLend, wLendT, wLendL, muW, wFor, wSeq, wRange1, wRange2, wLc, wipeR, wgName, wgTup, wgCons, wgNil, startR, wJoin, wZip, wEnum, wEnumA, wDisp1, wDGet2, wBrk, wCnt, wIxOx, wIxO, wPopSet, wPopAt, wPopAtSet, popAtW, wExt, wSet2, xE, xT, xA, xCons, xTup, xLst, xFz, xOp, xB, xNot, xAnd, xOr, xSl, xCB, xCallD, xCallX, xCallL, xRet, xDrop, xIfS, xSet, xAsg, wRaise, wTry, wHandle, outPs, wXf, wXis, wChain, wCat, wLm, gCnt, ev_addI, ev_addS, ev_addT, ev_addL, ev_mulI, ev_I, ev_I0, ev_ltI, ev_ltS, ev_ge, ev_eqI, ev_eqS, ev_eqB, ev_p0, ev_p1, ev_p2, ev_lenL, ev_lenT, ev_lenS, ev_lenQ, ev_lenK, ev_tupL, ev_tupT, ev_lisL, ev_lisT, ev_intI, ev_intB, ev_max2, ev_min2, ev_repr, ev_reprB, ev_reprT, ev_eqRp, ev_slL, ev_slT, ev_slS, ev_seqL, ev_seqT, ev_seqS, ev_inL, ev_inT, ev_isB, ev_dO, ev_dat0, ev_dat1, ev_dat2, ev_dat3, ev_dat4, ev_dat5, ev_dat8, ev_i0, ev_i1, ev_i2, ev_l0, ev_l1, ev_l2, dats, List.zip_cons_cons, List.zip_nil_right, List.zip_nil_left, List.reverse_singleton, List.reverse_cons, List.reverse_nil, wYes, List.getElem?_cons_zero, List.getElem?_cons_succ, List.set_cons_zero, List.set_cons_succ, List.map_cons, List.map_nil, List.cons_append, List.nil_append, List.append_nil, List.replicate, List.length_cons, List.length_nil, Nat.reduceAdd, Nat.reduceSub, Option.some.injEq, List.append_eq, Nat.zero_add, exists_eq', exists_eq_left', Sl.mu.injEq, Mu.l.injEq, Sl.sh.injEq, W.p.injEq, true_and, and_true, or_true, true_or, ite_true, ite_false, if_true, if_false, Bool.false_eq_true, decide_eq_true_eq]
      refine hC _ ⟨ps ++ [(y, r)], by rw [List.map_append]; rfl, ?_, fun p hp => ?_⟩
      · rw [List.map_append, hps, Nat.zero_add, List.take_add_one, e]
        rfl
      · rcases List.mem_append.mp hp with z | z
        · exact hrm p z
        · rw [List.mem_singleton.mp z]
          exact hr
  · obtain ⟨ps, rfl, hps, hrm⟩ := hI
    rw [List.length_map, Nat.zero_add, List.take_length] at hps
    refine q faces ps ⟨hfl, hfc, ?_, fun p hp => ?_, hrm, by rw [hps]; exact ynd, by rw [hps]; exact hsort⟩
    · have : (ps.map (·.1)).length = ys.length := by rw [hps]
      rw [List.length_map] at this
      omega
    · exact yok _ (by rw [← hps]; exact List.mem_map_of_mem hp)
end Pd
end

section
set_option Elab.async false
set_option linter.all false
set_option maxRecDepth 100000
set_option autoImplicit false
set_option maxHeartbeats 4000000
namespace Pd
open PySem PySem.Spec PyProof.Rows L2
def csX : List Str := ["InvalidHall", "UnknownRoom"]
def ysX : List Str := ["UnknownRoom", "InvalidHall"]
def flX : List Str := ["reason", "index", "name"]
def subX : Str → Str → Bool := fun x y => List.any [(("InvalidHall" : Str), ("InvalidHall" : Str)), (("UnknownRoom" : Str), ("UnknownRoom" : Str))] fun p => p.1 == x && p.2 == y
theorem sx_InvalidHall_UnknownRoom : subX "InvalidHall" "UnknownRoom" = false := by decide +kernel
theorem sx_InvalidHall_InvalidHall : subX "InvalidHall" "InvalidHall" = true := by decide +kernel
theorem sx_UnknownRoom_UnknownRoom : subX "UnknownRoom" "UnknownRoom" = true := by decide +kernel
theorem sx_UnknownRoom_InvalidHall : subX "UnknownRoom" "InvalidHall" = false := by decide +kernel
theorem cx_InvalidHall : ("InvalidHall" : Str) ∈ csX := by decide +kernel
theorem cx_UnknownRoom : ("UnknownRoom" : Str) ∈ csX := by decide +kernel
def n_need_room : List Str := ["hall", "room"]
def w_need_room : WS :=
    (wIfS (wB (wOp (oIn true) (wVar 1) (wOp oIx (wVar 0) (wC (.d (.int 0)))))) (wRaise "UnknownRoom" ["name"] (wCons (wVar 1) wNil)) wNext)
def n_glue : List Str := ["hall", "one", "other", "rooms", "doors", "glued", "index", "door", "first", "second", "ends", "end", "room"]
def w_glue (F_need_room : FX) : WS :=
    (wSeq2 (xDrop (xCallX F_need_room (xA (wCons (wVar 0) (wCons (wVar 1) wNil)))))
    (wSeq2 (xDrop (xCallX F_need_room (xA (wCons (wVar 0) (wCons (wVar 2) wNil)))))
    (wSeq2 (wAsg (wVar 0) (wgTup 2 (wgCons (wgName 3) (wgCons (wgName 4) wgNil))))
    (wSeq2 (wSetO 5 (wLst wNil))
    (wSeq2 (wFor (wEnumA (wCons (wVar 4) wNil)) (wgTup 2 (wgCons (wgName 6) (wgCons (wgTup 3 (wgCons (wgName 7) (wgCons (wgName 8) (wgCons (wgName 9) wgNil)))) wgNil))) (wSeq2 (wSet 10 (wCB oTuple (wCons (wFz (wLc (wSeq (wTup (wCons (wVar 8) (wCons (wVar 9) wNil)))) (wgName 11) wYes (wIf (wB (wOp (oEq false) (wVar 11) (wVar 2))) (wVar 1) (wVar 11)) [11])) wNil)))
    (wSeq2 (wIfS (wB (wOp (oEq false) (wOp oIx (wVar 10) (wC (.d (.int 0)))) (wOp oIx (wVar 10) (wC (.d (.int 1)))))) (wRaise "InvalidHall" ["reason", "index"] (wCons (wC (.d (.str "end"))) (wCons (wVar 6) wNil))) wNext)
    (wApp 5 (wOp oAdd (wTup (wCons (wVar 7) wNil)) (wVar 10))))))
    (wSeq2 (wIfS (wB (wOp (oEq false) (wVar 1) (wVar 2))) (wRaise "InvalidHall" ["reason", "index"] (wCons (wC (.d (.str "rooms"))) (wCons (wC (.d (.int 0))) wNil))) wNext)
    (wRet (wTup (wCons (wCB oTuple (wCons (wFz (wLc (wSeq (wVar 3)) (wgName 12) (wB (wOp (oEq true) (wVar 12) (wVar 2))) (wVar 12) [12])) wNil)) (wCons (wLend 5 (wCB oTuple (wCons (wVar 5) wNil))) wNil))))))))))
def n_glue_state : List Str := ["state", "one", "other", "faces", "places", "merged", "new_faces", "face", "walker", "room"]
def w_glue_state : WS :=
    (wSeq2 (wAsg (wVar 0) (wgTup 2 (wgCons (wgName 3) (wgCons (wgName 4) wgNil))))
    (wSeq2 (wSetN 5 (wDisp1 (wVar 2) (wVar 1)))
    (wSeq2 (wSet 6 (wCB oTuple (wCons (wFz (wLendL 5 (wLc (wSeq (wVar 3)) (wgName 7) wYes (wDGet2 (wVar 5) (wVar 7) (wVar 7)) [7]))) wNil)))
    (wRet (wTup (wCons (wVar 6) (wCons (wCB oTuple (wCons (wFz (wLendL 5 (wLc (wSeq (wVar 4)) (wgTup 2 (wgCons (wgName 8) (wgCons (wgName 9) wgNil))) wYes (wTup (wCons (wVar 8) (wCons (wDGet2 (wVar 5) (wVar 9) (wVar 9)) wNil))) [8, 9]))) wNil)) wNil)))))))
def n_law_due : List Str := ["hall", "one", "other", "name", "found", "at", "first", "second", "ends", "end"]
def w_law_due : WS :=
    (wSeq2 (wFor (wSeq (wTup (wCons (wVar 1) (wCons (wVar 2) wNil)))) (wgName 3) (wIfS (wB (wOp (oIn true) (wVar 3) (wOp oIx (wVar 0) (wC (.d (.int 0)))))) (wRet (wTup (wCons (wC (.d (.str "room"))) (wCons (wVar 3) wNil)))) wNext))
    (wSeq2 (wSetO 4 (wLst wNil))
    (wSeq2 (wFor (wEnumA (wCons (wOp oIx (wVar 0) (wC (.d (.int 1)))) wNil)) (wgTup 2 (wgCons (wgName 5) (wgCons (wgTup 3 (wgCons (wgName 3) (wgCons (wgName 6) (wgCons (wgName 7) wgNil)))) wgNil))) (wSeq2 (wSet 8 (wFz (wLc (wSeq (wTup (wCons (wVar 6) (wCons (wVar 7) wNil)))) (wgName 9) wYes (wIf (wB (wOp (oEq false) (wVar 9) (wVar 2))) (wVar 1) (wVar 9)) [9])))
    (wSeq2 (wIfS (wB (wOp (oEq false) (wOp oIx (wVar 8) (wC (.d (.int 0)))) (wOp oIx (wVar 8) (wC (.d (.int 1)))))) (wRet (wTup (wCons (wC (.d (.str "hall"))) (wCons (wC (.d (.str "end"))) (wCons (wVar 5) wNil))))) wNext)
    (wApp 4 (wTup (wCons (wVar 3) (wCons (wOp oIx (wVar 8) (wC (.d (.int 0)))) (wCons (wOp oIx (wVar 8) (wC (.d (.int 1)))) wNil))))))))
    (wSeq2 (wIfS (wB (wOp (oEq false) (wVar 1) (wVar 2))) (wRet (wTup (wCons (wC (.d (.str "hall"))) (wCons (wC (.d (.str "rooms"))) (wCons (wC (.d (.int 0))) wNil))))) wNext)
    (wRet (wTup (wCons (wC (.d (.str "result"))) (wCons (wTup (wCons (wCB oTuple (wCons (wFz (wLc (wSeq (wOp oIx (wVar 0) (wC (.d (.int 0))))) (wgName 3) (wB (wOp (oEq true) (wVar 3) (wVar 2))) (wVar 3) [3])) wNil)) (wCons (wLend 4 (wCB oTuple (wCons (wVar 4) wNil))) wNil))) wNil))))))))
def n_law_told : List Str := ["hall", "one", "other", "found", "e"]
def w_law_told (F_glue : FX) : WS :=
    (wSeq2 (wSet 3 (wTup (wCons (wC (.d (.str "other"))) wNil)))
    (wSeq2 (wTry csX subX (xSet 3 (xTup (xCons (xE (wC (.d (.str "result")))) (xCons (xCallX F_glue (xA (wCons (wVar 0) (wCons (wVar 1) (wCons (wVar 2) wNil))))) (xA wNil))))) (⟨"UnknownRoom", some 4, fun a d x => (wSet 3 (wTup (wCons (wC (.d (.str "room"))) (wCons (wXf a d 4 "name") wNil))))⟩ :: (⟨"InvalidHall", some 4, fun a d x => (wSet 3 (wTup (wCons (wC (.d (.str "hall"))) (wCons (wXf a d 4 "reason") (wCons (wXf a d 4 "index") wNil)))))⟩ :: [])))
    (wRet (wVar 3))))
def n_law_glued : List Str := ["state", "one", "other", "faces", "name", "walker"]
def w_law_glued : WS :=
    (wSeq2 (wSet 3 (wCB oTuple (wCons (wFz (wLc (wSeq (wOp oIx (wVar 0) (wC (.d (.int 0))))) (wgName 4) wYes (wOp oIx (wFz (wLst (wCons (wVar 4) (wCons (wVar 1) wNil)))) (wCB oInt (wCons (wOp (oEq false) (wVar 4) (wVar 2)) wNil))) [4])) wNil)))
    (wRet (wTup (wCons (wVar 3) (wCons (wCB oTuple (wCons (wFz (wLc (wSeq (wOp oIx (wVar 0) (wC (.d (.int 1))))) (wgTup 2 (wgCons (wgName 5) (wgCons (wgName 4) wgNil))) wYes (wTup (wCons (wVar 5) (wCons (wOp oIx (wFz (wLst (wCons (wVar 4) (wCons (wVar 1) wNil)))) (wCB oInt (wCons (wOp (oEq false) (wVar 4) (wVar 2)) wNil))) wNil))) [5, 4])) wNil)) wNil)))))
def n_law : List Str := ["script", "k", "box", "hall", "state", "names", "turn", "some", "one", "other", "kept", "due", "door", "place", "side"]
def w_law (F_law_box : FW) (F_law_take : FW) (F_law_hall : FW) (F_law_state : FW) (F_law_due : FW) (F_law_told : FW) (F_law_alike : FW) (F_validate_hall : FW) (F_law_glued : FW) (F_glue_state : FW) : WS :=
    (wSeq2 (wFor (wRange1 (wCons (wCB oMax2 (wCons (wC (.d (.int 2))) (wCons (wCB oMin2 (wCons (wC (.d (.int 5))) (wCons (wCB oLen (wCons (wVar 0) wNil)) wNil))) wNil))) wNil)) (wgName 1) (wSeq2 (wSetC 2 F_law_box (wCons (wVar 0) (wCons (wVar 1) wNil)))
    (wSeq2 (wSet 3 (wCallD F_law_hall (wCons (wVar 2) (wCons (wC (.d (.int 8))) (wCons (wOp oIx (wFz (wLst (wCons (wC (.d (.int 12))) (wCons (wC (.d (.int 4))) wNil)))) (wCallD F_law_take (wCons (wVar 2) (wCons (wC (.d (.int 2))) wNil)))) wNil)))))
    (wSeq2 (wPar [4, 5] (wConsO (wCallD F_law_state (wCons (wVar 2) (wCons (wVar 3) (wCons (wC (.d (.int 5))) wNil)))) (wConsO (wFz (wCL oList (wCons (wOp oIx (wVar 3) (wC (.d (.int 0)))) wNil))) wNilO)))
    (wFor (wRange1 (wCons (wC (.d (.int 10))) wNil)) (wgName 6) (wSeq2 (wSet 7 (wOp oAdd (wOp oAdd (wOp oAdd (wVar 5) (wVar 5)) (wFz (wLst (wCons (wC (.d (.str "zzzzzz"))) (wCons (wC (.d (.str "yyyyyy"))) wNil))))) (wFz (wLc (wSeq (wOp oIx (wVar 3) (wC (.d (.int 1))))) (wgName 12) wYes (wOp oIx (wVar 12) (wC (.d (.int 0)))) [12]))))
    (wSeq2 (wSet 7 (wOp oAdd (wVar 7) (wFz (wLc (wSeq (wOp oIx (wVar 4) (wC (.d (.int 1))))) (wgName 13) wYes (wOp oIx (wVar 13) (wC (.d (.int 0)))) [13]))))
    (wSeq2 (wAsg (wFz (wLc (wRange1 (wCons (wC (.d (.int 2))) wNil)) (wgName 14) wYes (wOp oIx (wVar 7) (wCallD F_law_take (wCons (wVar 2) (wCons (wCB oLen (wCons (wVar 7) wNil)) wNil)))) [14])) (wgLst 2 (wgCons (wgName 8) (wgCons (wgName 9) wgNil))))
    (wSeq2 (wPar [10, 11] (wConsO (wCB oRepr (wCons (wTup (wCons (wVar 3) (wCons (wVar 4) wNil))) wNil)) (wConsO (wCallD F_law_due (wCons (wVar 3) (wCons (wVar 8) (wCons (wVar 9) wNil)))) wNilO)))
    (wSeq2 (wIfS (wNot (wB (wCallD F_law_alike (wCons (wCallD F_law_told (wCons (wVar 3) (wCons (wVar 8) (wCons (wVar 9) wNil)))) (wCons (wVar 11) wNil))))) (wRet (wC (.d (.bool false)))) wNext)
    (wSeq2 (wIfS (wAnd (wB (wOp (oEq false) (wOp oIx (wVar 11) (wC (.d (.int 0)))) (wC (.d (.str "result"))))) (wB (wOp (oIs true) (wCallD F_validate_hall (wCons (wOp oIx (wVar 11) (wC (.d (.int 1)))) wNil)) (wC (.d (.bool true)))))) (wRet (wC (.d (.bool false)))) wNext)
    (wSeq2 (wIfS (wAnd (wB (wOp (oIn false) (wVar 8) (wVar 5))) (wB (wOp (oIn false) (wVar 9) (wVar 5)))) (wIfS (wNot (wB (wCallD F_law_alike (wCons (wCallD F_glue_state (wCons (wVar 4) (wCons (wVar 8) (wCons (wVar 9) wNil)))) (wCons (wCallD F_law_glued (wCons (wVar 4) (wCons (wVar 8) (wCons (wVar 9) wNil)))) wNil))))) (wRet (wC (.d (.bool false)))) wNext) wNext)
    (wIfS (wB (wOp (oEqRp true) (wCB oRepr (wCons (wTup (wCons (wVar 3) (wCons (wVar 4) wNil))) wNil)) (wVar 10))) (wRet (wC (.d (.bool false)))) wNext)))))))))))))
    (wRet (wC (.d (.bool true)))))
end Pd
end

section
set_option Elab.async false
set_option linter.all false
set_option maxRecDepth 100000
set_option autoImplicit false
set_option maxHeartbeats 4000000
namespace Pd
open PySem PySem.Spec PyProof.Rows L2
abbrev xnD (c : Str) (x : Str) : Xn := ⟨c, [("name", .str x)]⟩
def F_need_room : FX := fun ws Φ Θ => ∃ names doors x, ws = [.d (hallD names doors), .d (.str x)] ∧ (x ∈ names → Φ (.d .none)) ∧ (x ∉ names → Θ (xnD "UnknownRoom" x))
theorem l_need_room (ws : List W) (Φ : W → Prop) (Θ : Xn → Prop) (h : F_need_room ws Φ Θ) : ws.length = 2 := by
  obtain ⟨_, _, _, rfl, _⟩ := h
  rfl
theorem m_need_room (ws : List W) (Φ : W → Prop) (Θ : Xn → Prop) (h : F_need_room ws Φ Θ) : w_need_room (startR n_need_room ws) ⟨fun _ => Φ (.d .none), Φ, fun _ => False, fun _ => False, fun x _ => Θ x⟩ := by
  obtain ⟨names, doors, x, rfl, h1, h2⟩ := h
  simp only [w_need_room, n_need_room, hallD, wSeq2, wNext, wRet, wDrop, wIfS, wSet, wSetO, wSetN, wSetC, wSetIx, wSetI, wSetBx, wSetB, wAug, wApp, wAsg, wPar, wNilO, wConsO, wConsN, wL2N, putR, noUn, wVar, wC, wNil, wCons, wTup, wLst, wFz, wOp, wB, wAnd, wOr, wNot, wAndV, wOrV, wNotV, wIf, wNeg, wCB, wCL, wCallD, wRetB, wIsi, wSl, wNoPart, wPart, wRev, wFrz, wLend, wLendT, wLendL, muW, wFor, wSeq, wRange1, wRange2, wLc, wipeR, wgName, wgTup, wgLst, wgCons, wgNil, startR, wJoin, wZip, wEnum, wEnumA, wDisp1, wDGet2, wBrk, wCnt, wIxOx, wIxO, wPopSet, wPopAt, wPopAtSet, popAtW, wExt, wSet2, xE, xT, xA, xCons, xTup, xLst, xFz, xOp, xB, xNot, xAnd, xOr, xSl, xCB, xCallD, xCallX, xCallL, xRet, xDrop, xIfS, xSet, xAsg, wRaise, wTry, wHandle, outPs, wXf, wXis, wChain, wCat, wLm, gCnt, ev_addI, ev_addS, ev_addT, ev_addL, ev_mulI, ev_I, ev_I0, ev_ltI, ev_ltS, ev_ge, ev_eqI, ev_eqS, ev_eqB, ev_p0, ev_p1, ev_p2, ev_lenL, ev_lenT, ev_lenS, ev_lenQ, ev_lenK, ev_tupL, ev_tupT, ev_lisL, ev_lisT, ev_intI, ev_intB, ev_max2, ev_min2, ev_repr, ev_reprB, ev_reprT, ev_eqRp, ev_slL, ev_slT, ev_slS, ev_seqL, ev_seqT, ev_seqS, ev_inL, ev_inT, ev_isB, ev_dO, ev_dat0, ev_dat1, ev_dat2, ev_dat3, ev_dat4, ev_dat5, ev_dat8, ev_i0, ev_i1, ev_i2, ev_l0, ev_l1, ev_l2, dats, List.zip_cons_cons, List.zip_nil_right, List.zip_nil_left, List.reverse_singleton, List.reverse_cons, List.reverse_nil, wYes, List.getElem?_cons_zero, List.getElem?_cons_succ, List.set_cons_zero, List.set_cons_succ, List.map_cons, List.map_nil, List.cons_append, List.nil_append, List.append_nil, List.replicate, List.length_cons, List.length_nil, Nat.reduceAdd, Nat.reduceSub, Option.some.injEq, List.append_eq, Nat.zero_add, exists_eq', exists_eq_left', Sl.mu.injEq, Mu.l.injEq, Sl.sh.injEq, W.p.injEq, true_and, and_true, or_true, true_or, ite_true, ite_false, if_true, if_false, Bool.false_eq_true, decide_eq_true_eq]
  refine ⟨by rw [d0]; omega, ?_⟩
  rw [any_str, any_mem]
  by_cases hx : x ∈ names
  · rw [decide_eq_true hx]
    exact h1 hx
  · rw [decide_eq_false hx]
    exact h2 hx
def gl (one other x : Str) : Str := if x == other then one else x
inductive GOut where
  | room (x : Str)
  | hall (r : Str) (i : Nat)
  | res (rs : List Str) (ds : List Door)
def glD (one other : Str) (p : Door) : Door := (p.1, gl one other p.2.1, gl one other p.2.2)
def badG (ds : List Door) (one other : Str) (i : Nat) : Option Str := match ds[i]? with
  | some p => if (gl one other p.2.1 == gl one other p.2.2) = true then some (("end" : Str)) else none
  | none => none
def glueOut (names : List Str) (ds : List Door) (one other : Str) : GOut :=
  if one ∈ names then (if other ∈ names then (match firstSome (badG ds one other) 0 ds.length with
    | some r => .hall r.1 r.2
    | none => if (one == other) = true then .hall "rooms" 0 else .res (names.filter fun x => !(x == other)) (ds.map (glD one other))) else .room other) else .room one
def dueG : GOut → D
  | .room x => .tuple [.str "room", .str x]
  | .hall r i => .tuple [.str "hall", .str r, .int (i : Int)]
  | .res rs ds => .tuple [.str "result", hallD rs ds]
def F_glue : FX := fun ws Φ Θ => ∃ names doors one other, ws = [.d (hallD names doors), .d (.str one), .d (.str other)] ∧ doors.length ≤ 100 ∧ (match glueOut names doors one other with
  | .room x => Θ (xnD "UnknownRoom" x)
  | .hall r i => Θ (xnH r i)
  | .res rs ds => Φ (.d (hallD rs ds)))
theorem l_glue (ws : List W) (Φ : W → Prop) (Θ : Xn → Prop) (h : F_glue ws Φ Θ) : ws.length = 3 := by
  obtain ⟨_, _, _, _, rfl, _⟩ := h
  rfl
theorem glx (one other x : Str) {Φ : W → Prop} (q : Φ (.d (.str (gl one other x)))) : (if (false != (x == other)) = true then Φ (.d (.str one)) else Φ (.d (.str x))) := by
  unfold gl at q
  rw [Bool.false_bne]
  split
  · rename_i h
    rw [if_pos h] at q
    exact q
  · rename_i h
    rw [if_neg h] at q
    exact q
theorem small6 {n : Nat} (h : n ≤ 1000) : n ≤ 1000000 := by omega
theorem m_glue (ws : List W) (Φ : W → Prop) (Θ : Xn → Prop) (h : F_glue ws Φ Θ) : w_glue F_need_room (startR n_glue ws) ⟨fun _ => Φ (.d .none), Φ, fun _ => False, fun _ => False, fun x _ => Θ x⟩ := by
  obtain ⟨names, doors, one, other, rfl, hdl, q⟩ := h
  unfold glueOut at q
  simp only [w_glue, n_glue, wSeq2, wNext, wRet, wDrop, wIfS, wSet, wSetO, wSetN, wSetC, wSetIx, wSetI, wSetBx, wSetB, wAug, wApp, wAsg, wPar, wNilO, wConsO, wConsN, wL2N, putR, noUn, wVar, wC, wNil, wCons, wTup, wLst, wFz, wOp, wB, wAnd, wOr, wNot, wAndV, wOrV, wNotV, wIf, wNeg, wCB, wCL, wCallD, wRetB, wIsi, wSl, wNoPart, wPart, wRev, wFrz, wLend, wLendT, wLendL, muW, wFor, wSeq, wRange1, wRange2, wLc, wipeR, wgName, wgTup, wgLst, wgCons, wgNil, startR, wJoin, wZip, wEnum, wEnumA, wDisp1, wDGet2, wBrk, wCnt, wIxOx, wIxO, wPopSet, wPopAt, wPopAtSet, popAtW, wExt, wSet2, xE, xT, xA, xCons, xTup, xLst, xFz, xOp, xB, xNot, xAnd, xOr, xSl, xCB, xCallD, xCallX, xCallL, xRet, xDrop, xIfS, xSet, xAsg, wRaise, wTry, wHandle, outPs, wXf, wXis, wChain, wCat, wLm, gCnt, ev_addI, ev_addS, ev_addT, ev_addL, ev_mulI, ev_I, ev_I0, ev_ltI, ev_ltS, ev_ge, ev_eqI, ev_eqS, ev_eqB, ev_p0, ev_p1, ev_p2, ev_lenL, ev_lenT, ev_lenS, ev_lenQ, ev_lenK, ev_tupL, ev_tupT, ev_lisL, ev_lisT, ev_intI, ev_intB, ev_max2, ev_min2, ev_repr, ev_reprB, ev_reprT, ev_eqRp, ev_slL, ev_slT, ev_slS, ev_seqL, ev_seqT, ev_seqS, ev_inL, ev_inT, ev_isB, ev_dO, ev_dat0, ev_dat1, ev_dat2, ev_dat3, ev_dat4, ev_dat5, ev_dat8, ev_i0, ev_i1, ev_i2, ev_l0, ev_l1, ev_l2, dats, List.zip_cons_cons, List.zip_nil_right, List.zip_nil_left, List.reverse_singleton, List.reverse_cons, List.reverse_nil, wYes, List.getElem?_cons_zero, List.getElem?_cons_succ, List.set_cons_zero, List.set_cons_succ, List.map_cons, List.map_nil, List.cons_append, List.nil_append, List.append_nil, List.replicate, List.length_cons, List.length_nil, Nat.reduceAdd, Nat.reduceSub, Option.some.injEq, List.append_eq, Nat.zero_add, exists_eq', exists_eq_left', Sl.mu.injEq, Mu.l.injEq, Sl.sh.injEq, W.p.injEq, true_and, and_true, or_true, true_or, ite_true, ite_false, if_true, if_false, Bool.false_eq_true, decide_eq_true_eq]
  refine ⟨names, doors, one, rfl, fun h1 => ?_, fun h1 => by simp only [if_neg h1] at q; exact q⟩
  simp only [if_pos h1] at q
  simp only [wSeq2, wNext, wRet, wDrop, wIfS, wSet, wSetO, wSetN, wSetC, wSetIx, wSetI, wSetBx, wSetB, wAug, wApp, wAsg, wPar, wNilO, wConsO, wConsN, wL2N, putR, noUn, wVar, wC, wNil, wCons, wTup, wLst, wFz, wOp, wB, wAnd, wOr, wNot, wAndV, wOrV, wNotV, wIf, wNeg, wCB, wCL, wCallD, wRetB, wIsi, wSl, wNoPart, wPart, wRev, wFrz, wLend, wLendT, wLendL, muW, wFor, wSeq, wRange1, wRange2, wLc, wipeR, wgName, wgTup, wgLst, wgCons, wgNil, startR, wJoin, wZip, wEnum, wEnumA, wDisp1, wDGet2, wBrk, wCnt, wIxOx, wIxO, wPopSet, wPopAt, wPopAtSet, popAtW, wExt, wSet2, xE, xT, xA, xCons, xTup, xLst, xFz, xOp, xB, xNot, xAnd, xOr, xSl, xCB, xCallD, xCallX, xCallL, xRet, xDrop, xIfS, xSet, xAsg, wRaise, wTry, wHandle, outPs, wXf, wXis, wChain, wCat, wLm, gCnt, ev_addI, ev_addS, ev_addT, ev_addL, ev_mulI, ev_I, ev_I0, ev_ltI, ev_ltS, ev_ge, ev_eqI, ev_eqS, ev_eqB, ev_p0, ev_p1, ev_p2, ev_lenL, ev_lenT, ev_lenS, ev_lenQ, ev_lenK, ev_tupL, ev_tupT, ev_lisL, ev_lisT, ev_intI, ev_intB, ev_max2, ev_min2, ev_repr, ev_reprB, ev_reprT, ev_eqRp, ev_slL, ev_slT, ev_slS, ev_seqL, ev_seqT, ev_seqS, ev_inL, ev_inT, ev_isB, ev_dO, ev_dat0, ev_dat1, ev_dat2, ev_dat3, ev_dat4, ev_dat5, ev_dat8, ev_i0, ev_i1, ev_i2, ev_l0, ev_l1, ev_l2, dats, List.zip_cons_cons, List.zip_nil_right, List.zip_nil_left, List.reverse_singleton, List.reverse_cons, List.reverse_nil, wYes, List.getElem?_cons_zero, List.getElem?_cons_succ, List.set_cons_zero, List.set_cons_succ, List.map_cons, List.map_nil, List.cons_append, List.nil_append, List.append_nil, List.replicate, List.length_cons, List.length_nil, Nat.reduceAdd, Nat.reduceSub, Option.some.injEq, List.append_eq, Nat.zero_add, exists_eq', exists_eq_left', Sl.mu.injEq, Mu.l.injEq, Sl.sh.injEq, W.p.injEq, true_and, and_true, or_true, true_or, ite_true, ite_false, if_true, if_false, Bool.false_eq_true, decide_eq_true_eq]
  refine ⟨names, doors, other, rfl, fun h2 => ?_, fun h2 => by simp only [if_neg h2] at q; exact q⟩
  simp only [if_pos h2] at q
  simp only [hallD, wSeq2, wNext, wRet, wDrop, wIfS, wSet, wSetO, wSetN, wSetC, wSetIx, wSetI, wSetBx, wSetB, wAug, wApp, wAsg, wPar, wNilO, wConsO, wConsN, wL2N, putR, noUn, wVar, wC, wNil, wCons, wTup, wLst, wFz, wOp, wB, wAnd, wOr, wNot, wAndV, wOrV, wNotV, wIf, wNeg, wCB, wCL, wCallD, wRetB, wIsi, wSl, wNoPart, wPart, wRev, wFrz, wLend, wLendT, wLendL, muW, wFor, wSeq, wRange1, wRange2, wLc, wipeR, wgName, wgTup, wgLst, wgCons, wgNil, startR, wJoin, wZip, wEnum, wEnumA, wDisp1, wDGet2, wBrk, wCnt, wIxOx, wIxO, wPopSet, wPopAt, wPopAtSet, popAtW, wExt, wSet2, xE, xT, xA, xCons, xTup, xLst, xFz, xOp, xB, xNot, xAnd, xOr, xSl, xCB, xCallD, xCallX, xCallL, xRet, xDrop, xIfS, xSet, xAsg, wRaise, wTry, wHandle, outPs, wXf, wXis, wChain, wCat, wLm, gCnt, ev_addI, ev_addS, ev_addT, ev_addL, ev_mulI, ev_I, ev_I0, ev_ltI, ev_ltS, ev_ge, ev_eqI, ev_eqS, ev_eqB, ev_p0, ev_p1, ev_p2, ev_lenL, ev_lenT, ev_lenS, ev_lenQ, ev_lenK, ev_tupL, ev_tupT, ev_lisL, ev_lisT, ev_intI, ev_intB, ev_max2, ev_min2, ev_repr, ev_reprB, ev_reprT, ev_eqRp, ev_slL, ev_slT, ev_slS, ev_seqL, ev_seqT, ev_seqS, ev_inL, ev_inT, ev_isB, ev_dO, ev_dat0, ev_dat1, ev_dat2, ev_dat3, ev_dat4, ev_dat5, ev_dat8, ev_i0, ev_i1, ev_i2, ev_l0, ev_l1, ev_l2, dats, List.zip_cons_cons, List.zip_nil_right, List.zip_nil_left, List.reverse_singleton, List.reverse_cons, List.reverse_nil, wYes, List.getElem?_cons_zero, List.getElem?_cons_succ, List.set_cons_zero, List.set_cons_succ, List.map_cons, List.map_nil, List.cons_append, List.nil_append, List.append_nil, List.replicate, List.length_cons, List.length_nil, Nat.reduceAdd, Nat.reduceSub, Option.some.injEq, List.append_eq, Nat.zero_add, exists_eq', exists_eq_left', Sl.mu.injEq, Mu.l.injEq, Sl.sh.injEq, W.p.injEq, true_and, and_true, or_true, true_or, ite_true, ite_false, if_true, if_false, Bool.false_eq_true, decide_eq_true_eq]
  refine forW_first (p := badG doors one other) (B := fun r => Θ (xnH r.1 r.2)) (fun n ρ' => ∃ s6 s7 s8 s9 s10, ρ' = [.sh (.d (hallD names doors)), .sh (.d (.str one)), .sh (.d (.str other)), .sh (.d (.tuple (names.map PyData.str))), .sh (.d (.tuple (doors.map doorD))), .mu (.l (((doors.take n).map (glD one other)).map doorD)), s6, s7, s8, s9, s10, .un, .un]) 0 ⟨_, _, _, _, _, rfl⟩ (fun i d ρ' C hd hI hB hC => ?_) ?_
  · obtain ⟨s6, s7, s8, s9, s10, rfl⟩ := hI
    obtain ⟨x0, e0, rfl⟩ := enumD_get hd
    rw [List.getElem?_map] at e0
    cases e : doors[i]? with
    | none => rw [e] at e0; cases e0
    | some p =>
      rw [e] at e0
      cases e0
      simp only [Nat.zero_add] at hB hC
      have hb : badG doors one other i = if (gl one other p.2.1 == gl one other p.2.2) = true then some (("end" : Str)) else none := by
        unfold badG
        rw [e]
      rw [hb] at hB hC
      simp only [pairD, doorD, wSeq2, wNext, wRet, wDrop, wIfS, wSet, wSetO, wSetN, wSetC, wSetIx, wSetI, wSetBx, wSetB, wAug, wApp, wAsg, wPar, wNilO, wConsO, wConsN, wL2N, putR, noUn, wVar, wC, wNil, wCons, wTup, wLst, wFz, wOp, wB, wAnd, wOr, wNot, wAndV, wOrV, wNotV, wIf, wNeg, wCB, wCL, wCallD, wRetB, wIsi, wSl, wNoPart, wPart, wRev, wFrz, wLend, wLendT, wLendL, muW, wFor, wSeq, wRange1, wRange2, wLc, wipeR, wgName, wgTup, wgLst, wgCons, wgNil, startR, wJoin, wZip, wEnum, wEnumA, wDisp1, wDGet2, wBrk, wCnt, wIxOx, wIxO, wPopSet, wPopAt, wPopAtSet, popAtW, wExt, wSet2, xE, xT, xA, xCons, xTup, xLst, xFz, xOp, xB, xNot, xAnd, xOr, xSl, xCB, xCallD, xCallX, xCallL, xRet, xDrop, xIfS, xSet, xAsg, wRaise, wTry, wHandle, outPs, wXf, wXis, wChain, wCat, wLm, gCnt, ev_addI, ev_addS, ev_addT, ev_addL, ev_mulI, ev_I, ev_I0, ev_ltI, ev_ltS, ev_ge, ev_eqI, ev_eqS, ev_eqB, ev_p0, ev_p1, ev_p2, ev_lenL, ev_lenT, ev_lenS, ev_lenQ, ev_lenK, ev_tupL, ev_tupT, ev_lisL, ev_lisT, ev_intI, ev_intB, ev_max2, ev_min2, ev_repr, ev_reprB, ev_reprT, ev_eqRp, ev_slL, ev_slT, ev_slS, ev_seqL, ev_seqT, ev_seqS, ev_inL, ev_inT, ev_isB, ev_dO, ev_dat0, ev_dat1, ev_dat2, ev_dat3, ev_dat4, ev_dat5, ev_dat8, ev_i0, ev_i1, ev_i2, ev_l0, ev_l1, ev_l2, dats, List.zip_cons_cons, List.zip_nil_right, List.zip_nil_left, List.reverse_singleton, List.reverse_cons, List.reverse_nil, wYes, List.getElem?_cons_zero, List.getElem?_cons_succ, List.set_cons_zero, List.set_cons_succ, List.map_cons, List.map_nil, List.cons_append, List.nil_append, List.append_nil, List.replicate, List.length_cons, List.length_nil, Nat.reduceAdd, Nat.reduceSub, Option.some.injEq, List.append_eq, Nat.zero_add, exists_eq', exists_eq_left', Sl.mu.injEq, Mu.l.injEq, Sl.sh.injEq, W.p.injEq, true_and, and_true, or_true, true_or, ite_true, ite_false, if_true, if_false, Bool.false_eq_true, decide_eq_true_eq]
      refine compW_ds (g := fun d => match d with
        | .str x => .str (gl one other x)
        | _ => d) [PyData.str p.2.1, PyData.str p.2.2] (fun d hd acc C' k => ?_) ?_
      · have two : d = .str p.2.1 ∨ d = .str p.2.2 := by simpa using hd
        rcases two with rfl | rfl
        · simp only [wSeq2, wNext, wRet, wDrop, wIfS, wSet, wSetO, wSetN, wSetC, wSetIx, wSetI, wSetBx, wSetB, wAug, wApp, wAsg, wPar, wNilO, wConsO, wConsN, wL2N, putR, noUn, wVar, wC, wNil, wCons, wTup, wLst, wFz, wOp, wB, wAnd, wOr, wNot, wAndV, wOrV, wNotV, wIf, wNeg, wCB, wCL, wCallD, wRetB, wIsi, wSl, wNoPart, wPart, wRev, wFrz, wLend, wLendT, wLendL, muW, wFor, wSeq, wRange1, wRange2, wLc, wipeR, wgName, wgTup, wgLst, wgCons, wgNil, startR, wJoin, wZip, wEnum, wEnumA, wDisp1, wDGet2, wBrk, wCnt, wIxOx, wIxO, wPopSet, wPopAt, wPopAtSet, popAtW, wExt, wSet2, xE, xT, xA, xCons, xTup, xLst, xFz, xOp, xB, xNot, xAnd, xOr, xSl, xCB, xCallD, xCallX, xCallL, xRet, xDrop, xIfS, xSet, xAsg, wRaise, wTry, wHandle, outPs, wXf, wXis, wChain, wCat, wLm, gCnt, ev_addI, ev_addS, ev_addT, ev_addL, ev_mulI, ev_I, ev_I0, ev_ltI, ev_ltS, ev_ge, ev_eqI, ev_eqS, ev_eqB, ev_p0, ev_p1, ev_p2, ev_lenL, ev_lenT, ev_lenS, ev_lenQ, ev_lenK, ev_tupL, ev_tupT, ev_lisL, ev_lisT, ev_intI, ev_intB, ev_max2, ev_min2, ev_repr, ev_reprB, ev_reprT, ev_eqRp, ev_slL, ev_slT, ev_slS, ev_seqL, ev_seqT, ev_seqS, ev_inL, ev_inT, ev_isB, ev_dO, ev_dat0, ev_dat1, ev_dat2, ev_dat3, ev_dat4, ev_dat5, ev_dat8, ev_i0, ev_i1, ev_i2, ev_l0, ev_l1, ev_l2, dats, List.zip_cons_cons, List.zip_nil_right, List.zip_nil_left, List.reverse_singleton, List.reverse_cons, List.reverse_nil, wYes, List.getElem?_cons_zero, List.getElem?_cons_succ, List.set_cons_zero, List.set_cons_succ, List.map_cons, List.map_nil, List.cons_append, List.nil_append, List.append_nil, List.replicate, List.length_cons, List.length_nil, Nat.reduceAdd, Nat.reduceSub, Option.some.injEq, List.append_eq, Nat.zero_add, exists_eq', exists_eq_left', Sl.mu.injEq, Mu.l.injEq, Sl.sh.injEq, W.p.injEq, true_and, and_true, or_true, true_or, ite_true, ite_false, if_true, if_false, Bool.false_eq_true, decide_eq_true_eq]
          exact glx one other _ (Φ := fun r => match r with
            | .d x => C' (acc ++ [x])
            | _ => False) k
        · simp only [wSeq2, wNext, wRet, wDrop, wIfS, wSet, wSetO, wSetN, wSetC, wSetIx, wSetI, wSetBx, wSetB, wAug, wApp, wAsg, wPar, wNilO, wConsO, wConsN, wL2N, putR, noUn, wVar, wC, wNil, wCons, wTup, wLst, wFz, wOp, wB, wAnd, wOr, wNot, wAndV, wOrV, wNotV, wIf, wNeg, wCB, wCL, wCallD, wRetB, wIsi, wSl, wNoPart, wPart, wRev, wFrz, wLend, wLendT, wLendL, muW, wFor, wSeq, wRange1, wRange2, wLc, wipeR, wgName, wgTup, wgLst, wgCons, wgNil, startR, wJoin, wZip, wEnum, wEnumA, wDisp1, wDGet2, wBrk, wCnt, wIxOx, wIxO, wPopSet, wPopAt, wPopAtSet, popAtW, wExt, wSet2, xE, xT, xA, xCons, xTup, xLst, xFz, xOp, xB, xNot, xAnd, xOr, xSl, xCB, xCallD, xCallX, xCallL, xRet, xDrop, xIfS, xSet, xAsg, wRaise, wTry, wHandle, outPs, wXf, wXis, wChain, wCat, wLm, gCnt, ev_addI, ev_addS, ev_addT, ev_addL, ev_mulI, ev_I, ev_I0, ev_ltI, ev_ltS, ev_ge, ev_eqI, ev_eqS, ev_eqB, ev_p0, ev_p1, ev_p2, ev_lenL, ev_lenT, ev_lenS, ev_lenQ, ev_lenK, ev_tupL, ev_tupT, ev_lisL, ev_lisT, ev_intI, ev_intB, ev_max2, ev_min2, ev_repr, ev_reprB, ev_reprT, ev_eqRp, ev_slL, ev_slT, ev_slS, ev_seqL, ev_seqT, ev_seqS, ev_inL, ev_inT, ev_isB, ev_dO, ev_dat0, ev_dat1, ev_dat2, ev_dat3, ev_dat4, ev_dat5, ev_dat8, ev_i0, ev_i1, ev_i2, ev_l0, ev_l1, ev_l2, dats, List.zip_cons_cons, List.zip_nil_right, List.zip_nil_left, List.reverse_singleton, List.reverse_cons, List.reverse_nil, wYes, List.getElem?_cons_zero, List.getElem?_cons_succ, List.set_cons_zero, List.set_cons_succ, List.map_cons, List.map_nil, List.cons_append, List.nil_append, List.append_nil, List.replicate, List.length_cons, List.length_nil, Nat.reduceAdd, Nat.reduceSub, Option.some.injEq, List.append_eq, Nat.zero_add, exists_eq', exists_eq_left', Sl.mu.injEq, Mu.l.injEq, Sl.sh.injEq, W.p.injEq, true_and, and_true, or_true, true_or, ite_true, ite_false, if_true, if_false, Bool.false_eq_true, decide_eq_true_eq]
          exact glx one other _ (Φ := fun r => match r with
            | .d x => C' (acc ++ [x])
            | _ => False) k
      · simp only [wSeq2, wNext, wRet, wDrop, wIfS, wSet, wSetO, wSetN, wSetC, wSetIx, wSetI, wSetBx, wSetB, wAug, wApp, wAsg, wPar, wNilO, wConsO, wConsN, wL2N, putR, noUn, wVar, wC, wNil, wCons, wTup, wLst, wFz, wOp, wB, wAnd, wOr, wNot, wAndV, wOrV, wNotV, wIf, wNeg, wCB, wCL, wCallD, wRetB, wIsi, wSl, wNoPart, wPart, wRev, wFrz, wLend, wLendT, wLendL, muW, wFor, wSeq, wRange1, wRange2, wLc, wipeR, wgName, wgTup, wgLst, wgCons, wgNil, startR, wJoin, wZip, wEnum, wEnumA, wDisp1, wDGet2, wBrk, wCnt, wIxOx, wIxO, wPopSet, wPopAt, wPopAtSet, popAtW, wExt, wSet2, xE, xT, xA, xCons, xTup, xLst, xFz, xOp, xB, xNot, xAnd, xOr, xSl, xCB, xCallD, xCallX, xCallL, xRet, xDrop, xIfS, xSet, xAsg, wRaise, wTry, wHandle, outPs, wXf, wXis, wChain, wCat, wLm, gCnt, ev_addI, ev_addS, ev_addT, ev_addL, ev_mulI, ev_I, ev_I0, ev_ltI, ev_ltS, ev_ge, ev_eqI, ev_eqS, ev_eqB, ev_p0, ev_p1, ev_p2, ev_lenL, ev_lenT, ev_lenS, ev_lenQ, ev_lenK, ev_tupL, ev_tupT, ev_lisL, ev_lisT, ev_intI, ev_intB, ev_max2, ev_min2, ev_repr, ev_reprB, ev_reprT, ev_eqRp, ev_slL, ev_slT, ev_slS, ev_seqL, ev_seqT, ev_seqS, ev_inL, ev_inT, ev_isB, ev_dO, ev_dat0, ev_dat1, ev_dat2, ev_dat3, ev_dat4, ev_dat5, ev_dat8, ev_i0, ev_i1, ev_i2, ev_l0, ev_l1, ev_l2, dats, List.zip_cons_cons, List.zip_nil_right, List.zip_nil_left, List.reverse_singleton, List.reverse_cons, List.reverse_nil, wYes, List.getElem?_cons_zero, List.getElem?_cons_succ, List.set_cons_zero, List.set_cons_succ, List.map_cons, List.map_nil, List.cons_append, List.nil_append, List.append_nil, List.replicate, List.length_cons, List.length_nil, Nat.reduceAdd, Nat.reduceSub, Option.some.injEq, List.append_eq, Nat.zero_add, exists_eq', exists_eq_left', Sl.mu.injEq, Mu.l.injEq, Sl.sh.injEq, W.p.injEq, true_and, and_true, or_true, true_or, ite_true, ite_false, if_true, if_false, Bool.false_eq_true, decide_eq_true_eq]
        rw [Bool.false_bne]
        cases hq : (gl one other p.2.1 == gl one other p.2.2) with
        | true =>
          simp only [hq, if_true] at hB
          exact hB _ rfl
        | false =>
          simp only [hq, Bool.false_eq_true, if_false] at hC
          simp only [Bool.false_eq_true, if_false]
          have hk : doors.take (i + 1) = doors.take i ++ [p] := by
            rw [List.take_add_one, e]
            rfl
          have em : ((doors.take i).map (glD one other)).map doorD ++ [PyData.tuple [PyData.str p.1, PyData.str (gl one other p.2.1), PyData.str (gl one other p.2.2)]] = ((doors.take (i + 1)).map (glD one other)).map doorD := by
            rw [hk, List.map_append, List.map_append]
            rfl
          rw [em]
          exact ⟨small6 (by rw [List.length_map, List.length_map, List.length_take]; omega), by decide, hC trivial _ ⟨_, _, _, _, _, rfl⟩⟩
  · rw [enumD_len, List.length_map]
    split
    · rename_i r hr
      rw [hr] at q
      exact q
    · rename_i hr
      rw [hr] at q
      rintro ρ' ⟨s6, s7, s8, s9, s10, rfl⟩
      simp only at q
      simp only [wSeq2, wNext, wRet, wDrop, wIfS, wSet, wSetO, wSetN, wSetC, wSetIx, wSetI, wSetBx, wSetB, wAug, wApp, wAsg, wPar, wNilO, wConsO, wConsN, wL2N, putR, noUn, wVar, wC, wNil, wCons, wTup, wLst, wFz, wOp, wB, wAnd, wOr, wNot, wAndV, wOrV, wNotV, wIf, wNeg, wCB, wCL, wCallD, wRetB, wIsi, wSl, wNoPart, wPart, wRev, wFrz, wLend, wLendT, wLendL, muW, wFor, wSeq, wRange1, wRange2, wLc, wipeR, wgName, wgTup, wgLst, wgCons, wgNil, startR, wJoin, wZip, wEnum, wEnumA, wDisp1, wDGet2, wBrk, wCnt, wIxOx, wIxO, wPopSet, wPopAt, wPopAtSet, popAtW, wExt, wSet2, xE, xT, xA, xCons, xTup, xLst, xFz, xOp, xB, xNot, xAnd, xOr, xSl, xCB, xCallD, xCallX, xCallL, xRet, xDrop, xIfS, xSet, xAsg, wRaise, wTry, wHandle, outPs, wXf, wXis, wChain, wCat, wLm, gCnt, ev_addI, ev_addS, ev_addT, ev_addL, ev_mulI, ev_I, ev_I0, ev_ltI, ev_ltS, ev_ge, ev_eqI, ev_eqS, ev_eqB, ev_p0, ev_p1, ev_p2, ev_lenL, ev_lenT, ev_lenS, ev_lenQ, ev_lenK, ev_tupL, ev_tupT, ev_lisL, ev_lisT, ev_intI, ev_intB, ev_max2, ev_min2, ev_repr, ev_reprB, ev_reprT, ev_eqRp, ev_slL, ev_slT, ev_slS, ev_seqL, ev_seqT, ev_seqS, ev_inL, ev_inT, ev_isB, ev_dO, ev_dat0, ev_dat1, ev_dat2, ev_dat3, ev_dat4, ev_dat5, ev_dat8, ev_i0, ev_i1, ev_i2, ev_l0, ev_l1, ev_l2, dats, List.zip_cons_cons, List.zip_nil_right, List.zip_nil_left, List.reverse_singleton, List.reverse_cons, List.reverse_nil, wYes, List.getElem?_cons_zero, List.getElem?_cons_succ, List.set_cons_zero, List.set_cons_succ, List.map_cons, List.map_nil, List.cons_append, List.nil_append, List.append_nil, List.replicate, List.length_cons, List.length_nil, Nat.reduceAdd, Nat.reduceSub, Option.some.injEq, List.append_eq, Nat.zero_add, exists_eq', exists_eq_left', Sl.mu.injEq, Mu.l.injEq, Sl.sh.injEq, W.p.injEq, true_and, and_true, or_true, true_or, ite_true, ite_false, if_true, if_false, Bool.false_eq_true, decide_eq_true_eq]
      rw [Bool.false_bne]
      cases hq : (one == other) with
      | true =>
        simp only [hq, if_true] at q
        exact q
      | false =>
        simp only [hq, Bool.false_eq_true, if_false] at q
        simp only [Bool.false_eq_true, if_false]
        refine compW_filt (keep := fun x : Str => !(x == other)) (g := fun x => PyData.str x) names [] (fun x _ acc C k => ?_) ?_
        · simp only [wSeq2, wNext, wRet, wDrop, wIfS, wSet, wSetO, wSetN, wSetC, wSetIx, wSetI, wSetBx, wSetB, wAug, wApp, wAsg, wPar, wNilO, wConsO, wConsN, wL2N, putR, noUn, wVar, wC, wNil, wCons, wTup, wLst, wFz, wOp, wB, wAnd, wOr, wNot, wAndV, wOrV, wNotV, wIf, wNeg, wCB, wCL, wCallD, wRetB, wIsi, wSl, wNoPart, wPart, wRev, wFrz, wLend, wLendT, wLendL, muW, wFor, wSeq, wRange1, wRange2, wLc, wipeR, wgName, wgTup, wgLst, wgCons, wgNil, startR, wJoin, wZip, wEnum, wEnumA, wDisp1, wDGet2, wBrk, wCnt, wIxOx, wIxO, wPopSet, wPopAt, wPopAtSet, popAtW, wExt, wSet2, xE, xT, xA, xCons, xTup, xLst, xFz, xOp, xB, xNot, xAnd, xOr, xSl, xCB, xCallD, xCallX, xCallL, xRet, xDrop, xIfS, xSet, xAsg, wRaise, wTry, wHandle, outPs, wXf, wXis, wChain, wCat, wLm, gCnt, ev_addI, ev_addS, ev_addT, ev_addL, ev_mulI, ev_I, ev_I0, ev_ltI, ev_ltS, ev_ge, ev_eqI, ev_eqS, ev_eqB, ev_p0, ev_p1, ev_p2, ev_lenL, ev_lenT, ev_lenS, ev_lenQ, ev_lenK, ev_tupL, ev_tupT, ev_lisL, ev_lisT, ev_intI, ev_intB, ev_max2, ev_min2, ev_repr, ev_reprB, ev_reprT, ev_eqRp, ev_slL, ev_slT, ev_slS, ev_seqL, ev_seqT, ev_seqS, ev_inL, ev_inT, ev_isB, ev_dO, ev_dat0, ev_dat1, ev_dat2, ev_dat3, ev_dat4, ev_dat5, ev_dat8, ev_i0, ev_i1, ev_i2, ev_l0, ev_l1, ev_l2, dats, List.zip_cons_cons, List.zip_nil_right, List.zip_nil_left, List.reverse_singleton, List.reverse_cons, List.reverse_nil, wYes, List.getElem?_cons_zero, List.getElem?_cons_succ, List.set_cons_zero, List.set_cons_succ, List.map_cons, List.map_nil, List.cons_append, List.nil_append, List.append_nil, List.replicate, List.length_cons, List.length_nil, Nat.reduceAdd, Nat.reduceSub, Option.some.injEq, List.append_eq, Nat.zero_add, exists_eq', exists_eq_left', Sl.mu.injEq, Mu.l.injEq, Sl.sh.injEq, W.p.injEq, true_and, and_true, or_true, true_or, ite_true, ite_false, if_true, if_false, Bool.false_eq_true, decide_eq_true_eq]
          rw [Bool.true_bne]
          cases hx : (x == other) with
          | true =>
            simp only [hx, Bool.not_true, Bool.false_eq_true, if_false, List.append_nil] at k
            exact k
          | false =>
            simp only [hx, Bool.not_false, if_true] at k
            exact k
        · rw [List.nil_append, List.take_length]
          refine ⟨?_, q⟩
          rw [noList]
          exact drs_noList _
theorem l_law_told (ws : List W) (Φ : W → Prop) (h : ∃ names doors one other, ws = [.d (hallD names doors), .d (.str one), .d (.str other)] ∧ doors.length ≤ 100 ∧ Φ (.d (dueG (glueOut names doors one other)))) : ws.length = 3 := by
  obtain ⟨_, _, _, _, rfl, _⟩ := h
  rfl
def F_law_told : FW := fun ws Φ => ∃ names doors one other, ws = [.d (hallD names doors), .d (.str one), .d (.str other)] ∧ doors.length ≤ 100 ∧ Φ (.d (dueG (glueOut names doors one other)))
theorem m_law_told (ws : List W) (Φ : W → Prop) (h : F_law_told ws Φ) : w_law_told F_glue (startR n_law_told ws) ⟨fun _ => Φ (.d .none), Φ, fun _ => False, fun _ => False, fun _ _ => False⟩ := by
  obtain ⟨names, doors, one, other, rfl, hdl, q⟩ := h
  simp only [w_law_told, n_law_told, wSeq2, wNext, wRet, wDrop, wIfS, wSet, wSetO, wSetN, wSetC, wSetIx, wSetI, wSetBx, wSetB, wAug, wApp, wAsg, wPar, wNilO, wConsO, wConsN, wL2N, putR, noUn, wVar, wC, wNil, wCons, wTup, wLst, wFz, wOp, wB, wAnd, wOr, wNot, wAndV, wOrV, wNotV, wIf, wNeg, wCB, wCL, wCallD, wRetB, wIsi, wSl, wNoPart, wPart, wRev, wFrz, wLend, wLendT, wLendL, muW, wFor, wSeq, wRange1, wRange2, wLc, wipeR, wgName, wgTup, wgLst, wgCons, wgNil, startR, wJoin, wZip, wEnum, wEnumA, wDisp1, wDGet2, wBrk, wCnt, wIxOx, wIxO, wPopSet, wPopAt, wPopAtSet, popAtW, wExt, wSet2, xE, xT, xA, xCons, xTup, xLst, xFz, xOp, xB, xNot, xAnd, xOr, xSl, xCB, xCallD, xCallX, xCallL, xRet, xDrop, xIfS, xSet, xAsg, wRaise, wTry, wHandle, outPs, wXf, wXis, wChain, wCat, wLm, gCnt, ev_addI, ev_addS, ev_addT, ev_addL, ev_mulI, ev_I, ev_I0, ev_ltI, ev_ltS, ev_ge, ev_eqI, ev_eqS, ev_eqB, ev_p0, ev_p1, ev_p2, ev_lenL, ev_lenT, ev_lenS, ev_lenQ, ev_lenK, ev_tupL, ev_tupT, ev_lisL, ev_lisT, ev_intI, ev_intB, ev_max2, ev_min2, ev_repr, ev_reprB, ev_reprT, ev_eqRp, ev_slL, ev_slT, ev_slS, ev_seqL, ev_seqT, ev_seqS, ev_inL, ev_inT, ev_isB, ev_dO, ev_dat0, ev_dat1, ev_dat2, ev_dat3, ev_dat4, ev_dat5, ev_dat8, ev_i0, ev_i1, ev_i2, ev_l0, ev_l1, ev_l2, dats, List.zip_cons_cons, List.zip_nil_right, List.zip_nil_left, List.reverse_singleton, List.reverse_cons, List.reverse_nil, wYes, List.getElem?_cons_zero, List.getElem?_cons_succ, List.set_cons_zero, List.set_cons_succ, List.map_cons, List.map_nil, List.cons_append, List.nil_append, List.append_nil, List.replicate, List.length_cons, List.length_nil, Nat.reduceAdd, Nat.reduceSub, Option.some.injEq, List.append_eq, Nat.zero_add, exists_eq', exists_eq_left', Sl.mu.injEq, Mu.l.injEq, Sl.sh.injEq, W.p.injEq, true_and, and_true, or_true, true_or, ite_true, ite_false, if_true, if_false, Bool.false_eq_true, decide_eq_true_eq]
  refine ⟨names, doors, one, other, rfl, hdl, ?_⟩
  cases ho : glueOut names doors one other with
  | room x =>
    rw [ho] at q
    simp only [xnD, sx_UnknownRoom_UnknownRoom, wSeq2, wNext, wRet, wDrop, wIfS, wSet, wSetO, wSetN, wSetC, wSetIx, wSetI, wSetBx, wSetB, wAug, wApp, wAsg, wPar, wNilO, wConsO, wConsN, wL2N, putR, noUn, wVar, wC, wNil, wCons, wTup, wLst, wFz, wOp, wB, wAnd, wOr, wNot, wAndV, wOrV, wNotV, wIf, wNeg, wCB, wCL, wCallD, wRetB, wIsi, wSl, wNoPart, wPart, wRev, wFrz, wLend, wLendT, wLendL, muW, wFor, wSeq, wRange1, wRange2, wLc, wipeR, wgName, wgTup, wgLst, wgCons, wgNil, startR, wJoin, wZip, wEnum, wEnumA, wDisp1, wDGet2, wBrk, wCnt, wIxOx, wIxO, wPopSet, wPopAt, wPopAtSet, popAtW, wExt, wSet2, xE, xT, xA, xCons, xTup, xLst, xFz, xOp, xB, xNot, xAnd, xOr, xSl, xCB, xCallD, xCallX, xCallL, xRet, xDrop, xIfS, xSet, xAsg, wRaise, wTry, wHandle, outPs, wXf, wXis, wChain, wCat, wLm, gCnt, ev_addI, ev_addS, ev_addT, ev_addL, ev_mulI, ev_I, ev_I0, ev_ltI, ev_ltS, ev_ge, ev_eqI, ev_eqS, ev_eqB, ev_p0, ev_p1, ev_p2, ev_lenL, ev_lenT, ev_lenS, ev_lenQ, ev_lenK, ev_tupL, ev_tupT, ev_lisL, ev_lisT, ev_intI, ev_intB, ev_max2, ev_min2, ev_repr, ev_reprB, ev_reprT, ev_eqRp, ev_slL, ev_slT, ev_slS, ev_seqL, ev_seqT, ev_seqS, ev_inL, ev_inT, ev_isB, ev_dO, ev_dat0, ev_dat1, ev_dat2, ev_dat3, ev_dat4, ev_dat5, ev_dat8, ev_i0, ev_i1, ev_i2, ev_l0, ev_l1, ev_l2, dats, List.zip_cons_cons, List.zip_nil_right, List.zip_nil_left, List.reverse_singleton, List.reverse_cons, List.reverse_nil, wYes, List.getElem?_cons_zero, List.getElem?_cons_succ, List.set_cons_zero, List.set_cons_succ, List.map_cons, List.map_nil, List.cons_append, List.nil_append, List.append_nil, List.replicate, List.length_cons, List.length_nil, Nat.reduceAdd, Nat.reduceSub, Option.some.injEq, List.append_eq, Nat.zero_add, exists_eq', exists_eq_left', Sl.mu.injEq, Mu.l.injEq, Sl.sh.injEq, W.p.injEq, true_and, and_true, or_true, true_or, ite_true, ite_false, if_true, if_false, Bool.false_eq_true, decide_eq_true_eq]
    exact ⟨cx_UnknownRoom, fun _ _ => q⟩
  | hall r i =>
    rw [ho] at q
    simp only [xnH, sx_InvalidHall_UnknownRoom, sx_InvalidHall_InvalidHall, wSeq2, wNext, wRet, wDrop, wIfS, wSet, wSetO, wSetN, wSetC, wSetIx, wSetI, wSetBx, wSetB, wAug, wApp, wAsg, wPar, wNilO, wConsO, wConsN, wL2N, putR, noUn, wVar, wC, wNil, wCons, wTup, wLst, wFz, wOp, wB, wAnd, wOr, wNot, wAndV, wOrV, wNotV, wIf, wNeg, wCB, wCL, wCallD, wRetB, wIsi, wSl, wNoPart, wPart, wRev, wFrz, wLend, wLendT, wLendL, muW, wFor, wSeq, wRange1, wRange2, wLc, wipeR, wgName, wgTup, wgLst, wgCons, wgNil, startR, wJoin, wZip, wEnum, wEnumA, wDisp1, wDGet2, wBrk, wCnt, wIxOx, wIxO, wPopSet, wPopAt, wPopAtSet, popAtW, wExt, wSet2, xE, xT, xA, xCons, xTup, xLst, xFz, xOp, xB, xNot, xAnd, xOr, xSl, xCB, xCallD, xCallX, xCallL, xRet, xDrop, xIfS, xSet, xAsg, wRaise, wTry, wHandle, outPs, wXf, wXis, wChain, wCat, wLm, gCnt, ev_addI, ev_addS, ev_addT, ev_addL, ev_mulI, ev_I, ev_I0, ev_ltI, ev_ltS, ev_ge, ev_eqI, ev_eqS, ev_eqB, ev_p0, ev_p1, ev_p2, ev_lenL, ev_lenT, ev_lenS, ev_lenQ, ev_lenK, ev_tupL, ev_tupT, ev_lisL, ev_lisT, ev_intI, ev_intB, ev_max2, ev_min2, ev_repr, ev_reprB, ev_reprT, ev_eqRp, ev_slL, ev_slT, ev_slS, ev_seqL, ev_seqT, ev_seqS, ev_inL, ev_inT, ev_isB, ev_dO, ev_dat0, ev_dat1, ev_dat2, ev_dat3, ev_dat4, ev_dat5, ev_dat8, ev_i0, ev_i1, ev_i2, ev_l0, ev_l1, ev_l2, dats, List.zip_cons_cons, List.zip_nil_right, List.zip_nil_left, List.reverse_singleton, List.reverse_cons, List.reverse_nil, wYes, List.getElem?_cons_zero, List.getElem?_cons_succ, List.set_cons_zero, List.set_cons_succ, List.map_cons, List.map_nil, List.cons_append, List.nil_append, List.append_nil, List.replicate, List.length_cons, List.length_nil, Nat.reduceAdd, Nat.reduceSub, Option.some.injEq, List.append_eq, Nat.zero_add, exists_eq', exists_eq_left', Sl.mu.injEq, Mu.l.injEq, Sl.sh.injEq, W.p.injEq, true_and, and_true, or_true, true_or, ite_true, ite_false, if_true, if_false, Bool.false_eq_true, decide_eq_true_eq]
    exact ⟨cx_InvalidHall, fun _ _ => q⟩
  | res rs ds =>
    rw [ho] at q
    simp only [wSeq2, wNext, wRet, wDrop, wIfS, wSet, wSetO, wSetN, wSetC, wSetIx, wSetI, wSetBx, wSetB, wAug, wApp, wAsg, wPar, wNilO, wConsO, wConsN, wL2N, putR, noUn, wVar, wC, wNil, wCons, wTup, wLst, wFz, wOp, wB, wAnd, wOr, wNot, wAndV, wOrV, wNotV, wIf, wNeg, wCB, wCL, wCallD, wRetB, wIsi, wSl, wNoPart, wPart, wRev, wFrz, wLend, wLendT, wLendL, muW, wFor, wSeq, wRange1, wRange2, wLc, wipeR, wgName, wgTup, wgLst, wgCons, wgNil, startR, wJoin, wZip, wEnum, wEnumA, wDisp1, wDGet2, wBrk, wCnt, wIxOx, wIxO, wPopSet, wPopAt, wPopAtSet, popAtW, wExt, wSet2, xE, xT, xA, xCons, xTup, xLst, xFz, xOp, xB, xNot, xAnd, xOr, xSl, xCB, xCallD, xCallX, xCallL, xRet, xDrop, xIfS, xSet, xAsg, wRaise, wTry, wHandle, outPs, wXf, wXis, wChain, wCat, wLm, gCnt, ev_addI, ev_addS, ev_addT, ev_addL, ev_mulI, ev_I, ev_I0, ev_ltI, ev_ltS, ev_ge, ev_eqI, ev_eqS, ev_eqB, ev_p0, ev_p1, ev_p2, ev_lenL, ev_lenT, ev_lenS, ev_lenQ, ev_lenK, ev_tupL, ev_tupT, ev_lisL, ev_lisT, ev_intI, ev_intB, ev_max2, ev_min2, ev_repr, ev_reprB, ev_reprT, ev_eqRp, ev_slL, ev_slT, ev_slS, ev_seqL, ev_seqT, ev_seqS, ev_inL, ev_inT, ev_isB, ev_dO, ev_dat0, ev_dat1, ev_dat2, ev_dat3, ev_dat4, ev_dat5, ev_dat8, ev_i0, ev_i1, ev_i2, ev_l0, ev_l1, ev_l2, dats, List.zip_cons_cons, List.zip_nil_right, List.zip_nil_left, List.reverse_singleton, List.reverse_cons, List.reverse_nil, wYes, List.getElem?_cons_zero, List.getElem?_cons_succ, List.set_cons_zero, List.set_cons_succ, List.map_cons, List.map_nil, List.cons_append, List.nil_append, List.append_nil, List.replicate, List.length_cons, List.length_nil, Nat.reduceAdd, Nat.reduceSub, Option.some.injEq, List.append_eq, Nat.zero_add, exists_eq', exists_eq_left', Sl.mu.injEq, Mu.l.injEq, Sl.sh.injEq, W.p.injEq, true_and, and_true, or_true, true_or, ite_true, ite_false, if_true, if_false, Bool.false_eq_true, decide_eq_true_eq]
    exact q
def F_law_due : FW := F_law_told
theorem m_law_due (ws : List W) (Φ : W → Prop) (h : F_law_due ws Φ) : w_law_due (startR n_law_due ws) ⟨fun _ => Φ (.d .none), Φ, fun _ => False, fun _ => False, fun _ _ => False⟩ := by
  obtain ⟨names, doors, one, other, rfl, hdl, q⟩ := h
  unfold glueOut at q
  simp only [w_law_due, n_law_due, hallD, forW, wSeq2, wNext, wRet, wDrop, wIfS, wSet, wSetO, wSetN, wSetC, wSetIx, wSetI, wSetBx, wSetB, wAug, wApp, wAsg, wPar, wNilO, wConsO, wConsN, wL2N, putR, noUn, wVar, wC, wNil, wCons, wTup, wLst, wFz, wOp, wB, wAnd, wOr, wNot, wAndV, wOrV, wNotV, wIf, wNeg, wCB, wCL, wCallD, wRetB, wIsi, wSl, wNoPart, wPart, wRev, wFrz, wLend, wLendT, wLendL, muW, wFor, wSeq, wRange1, wRange2, wLc, wipeR, wgName, wgTup, wgLst, wgCons, wgNil, startR, wJoin, wZip, wEnum, wEnumA, wDisp1, wDGet2, wBrk, wCnt, wIxOx, wIxO, wPopSet, wPopAt, wPopAtSet, popAtW, wExt, wSet2, xE, xT, xA, xCons, xTup, xLst, xFz, xOp, xB, xNot, xAnd, xOr, xSl, xCB, xCallD, xCallX, xCallL, xRet, xDrop, xIfS, xSet, xAsg, wRaise, wTry, wHandle, outPs, wXf, wXis, wChain, wCat, wLm, gCnt, ev_addI, ev_addS, ev_addT, ev_addL, ev_mulI, ev_I, ev_I0, ev_ltI, ev_ltS, ev_ge, ev_eqI, ev_eqS, ev_eqB, ev_p0, ev_p1, ev_p2, ev_lenL, ev_lenT, ev_lenS, ev_lenQ, ev_lenK, ev_tupL, ev_tupT, ev_lisL, ev_lisT, ev_intI, ev_intB, ev_max2, ev_min2, ev_repr, ev_reprB, ev_reprT, ev_eqRp, ev_slL, ev_slT, ev_slS, ev_seqL, ev_seqT, ev_seqS, ev_inL, ev_inT, ev_isB, ev_dO, ev_dat0, ev_dat1, ev_dat2, ev_dat3, ev_dat4, ev_dat5, ev_dat8, ev_i0, ev_i1, ev_i2, ev_l0, ev_l1, ev_l2, dats, List.zip_cons_cons, List.zip_nil_right, List.zip_nil_left, List.reverse_singleton, List.reverse_cons, List.reverse_nil, wYes, List.getElem?_cons_zero, List.getElem?_cons_succ, List.set_cons_zero, List.set_cons_succ, List.map_cons, List.map_nil, List.cons_append, List.nil_append, List.append_nil, List.replicate, List.length_cons, List.length_nil, Nat.reduceAdd, Nat.reduceSub, Option.some.injEq, List.append_eq, Nat.zero_add, exists_eq', exists_eq_left', Sl.mu.injEq, Mu.l.injEq, Sl.sh.injEq, W.p.injEq, true_and, and_true, or_true, true_or, ite_true, ite_false, if_true, if_false, Bool.false_eq_true, decide_eq_true_eq]
  refine ⟨by rw [d0]; omega, ?_⟩
  rw [any_str, any_mem]
  by_cases h1 : one ∈ names
  · simp only [if_pos h1] at q
    rw [decide_eq_true h1]
    simp only [bne_self_eq_false, Bool.false_eq_true, if_false]
    refine ⟨by rw [d0]; omega, ?_⟩
    rw [any_str, any_mem]
    by_cases h2 : other ∈ names
    · simp only [if_pos h2] at q
      rw [decide_eq_true h2]
      simp only [bne_self_eq_false, Bool.false_eq_true, if_false]
      refine forW_first (p := badG doors one other) (B := fun r => Φ (.d (.tuple [.str "hall", .str r.1, .int (r.2 : Int)]))) (fun n ρ' => ∃ s3 s5 s6 s7 s8, ρ' = [.sh (.d (hallD names doors)), .sh (.d (.str one)), .sh (.d (.str other)), s3, .mu (.l (((doors.take n).map (glD one other)).map doorD)), s5, s6, s7, s8, .un]) 0 ⟨_, _, _, _, _, rfl⟩ (fun i d ρ' C hd hI hB hC => ?_) ?_
      · obtain ⟨s3, s5, s6, s7, s8, rfl⟩ := hI
        obtain ⟨x0, e0, rfl⟩ := enumD_get hd
        rw [List.getElem?_map] at e0
        cases e : doors[i]? with
        | none => rw [e] at e0; cases e0
        | some p =>
          rw [e] at e0
          cases e0
          simp only [Nat.zero_add] at hB hC
          have hb : badG doors one other i = if (gl one other p.2.1 == gl one other p.2.2) = true then some (("end" : Str)) else none := by
            unfold badG
            rw [e]
          rw [hb] at hB hC
          simp only [pairD, doorD, wSeq2, wNext, wRet, wDrop, wIfS, wSet, wSetO, wSetN, wSetC, wSetIx, wSetI, wSetBx, wSetB, wAug, wApp, wAsg, wPar, wNilO, wConsO, wConsN, wL2N, putR, noUn, wVar, wC, wNil, wCons, wTup, wLst, wFz, wOp, wB, wAnd, wOr, wNot, wAndV, wOrV, wNotV, wIf, wNeg, wCB, wCL, wCallD, wRetB, wIsi, wSl, wNoPart, wPart, wRev, wFrz, wLend, wLendT, wLendL, muW, wFor, wSeq, wRange1, wRange2, wLc, wipeR, wgName, wgTup, wgLst, wgCons, wgNil, startR, wJoin, wZip, wEnum, wEnumA, wDisp1, wDGet2, wBrk, wCnt, wIxOx, wIxO, wPopSet, wPopAt, wPopAtSet, popAtW, wExt, wSet2, xE, xT, xA, xCons, xTup, xLst, xFz, xOp, xB, xNot, xAnd, xOr, xSl, xCB, xCallD, xCallX, xCallL, xRet, xDrop, xIfS, xSet, xAsg, wRaise, wTry, wHandle, outPs, wXf, wXis, wChain, wCat, wLm, gCnt, ev_addI, ev_addS, ev_addT, ev_addL, ev_mulI, ev_I, ev_I0, ev_ltI, ev_ltS, ev_ge, ev_eqI, ev_eqS, ev_eqB, ev_p0, ev_p1, ev_p2, ev_lenL, ev_lenT, ev_lenS, ev_lenQ, ev_lenK, ev_tupL, ev_tupT, ev_lisL, ev_lisT, ev_intI, ev_intB, ev_max2, ev_min2, ev_repr, ev_reprB, ev_reprT, ev_eqRp, ev_slL, ev_slT, ev_slS, ev_seqL, ev_seqT, ev_seqS, ev_inL, ev_inT, ev_isB, ev_dO, ev_dat0, ev_dat1, ev_dat2, ev_dat3, ev_dat4, ev_dat5, ev_dat8, ev_i0, ev_i1, ev_i2, ev_l0, ev_l1, ev_l2, dats, List.zip_cons_cons, List.zip_nil_right, List.zip_nil_left, List.reverse_singleton, List.reverse_cons, List.reverse_nil, wYes, List.getElem?_cons_zero, List.getElem?_cons_succ, List.set_cons_zero, List.set_cons_succ, List.map_cons, List.map_nil, List.cons_append, List.nil_append, List.append_nil, List.replicate, List.length_cons, List.length_nil, Nat.reduceAdd, Nat.reduceSub, Option.some.injEq, List.append_eq, Nat.zero_add, exists_eq', exists_eq_left', Sl.mu.injEq, Mu.l.injEq, Sl.sh.injEq, W.p.injEq, true_and, and_true, or_true, true_or, ite_true, ite_false, if_true, if_false, Bool.false_eq_true, decide_eq_true_eq]
          refine compW_ds (g := fun d => match d with
            | .str x => .str (gl one other x)
            | _ => d) [PyData.str p.2.1, PyData.str p.2.2] (fun d hd acc C' k => ?_) ?_
          · have two : d = .str p.2.1 ∨ d = .str p.2.2 := by simpa using hd
            rcases two with rfl | rfl
            · simp only [wSeq2, wNext, wRet, wDrop, wIfS, wSet, wSetO, wSetN, wSetC, wSetIx, wSetI, wSetBx, wSetB, wAug, wApp, wAsg, wPar, wNilO, wConsO, wConsN, wL2N, putR, noUn, wVar, wC, wNil, wCons, wTup, wLst, wFz, wOp, wB, wAnd, wOr, wNot, wAndV, wOrV, wNotV, wIf, wNeg, wCB, wCL, wCallD, wRetB, wIsi, wSl, wNoPart, wPart, wRev, wFrz, wLend, wLendT, wLendL, muW, wFor, wSeq, wRange1, wRange2, wLc, wipeR, wgName, wgTup, wgLst, wgCons, wgNil, startR, wJoin, wZip, wEnum, wEnumA, wDisp1, wDGet2, wBrk, wCnt, wIxOx, wIxO, wPopSet, wPopAt, wPopAtSet, popAtW, wExt, wSet2, xE, xT, xA, xCons, xTup, xLst, xFz, xOp, xB, xNot, xAnd, xOr, xSl, xCB, xCallD, xCallX, xCallL, xRet, xDrop, xIfS, xSet, xAsg, wRaise, wTry, wHandle, outPs, wXf, wXis, wChain, wCat, wLm, gCnt, ev_addI, ev_addS, ev_addT, ev_addL, ev_mulI, ev_I, ev_I0, ev_ltI, ev_ltS, ev_ge, ev_eqI, ev_eqS, ev_eqB, ev_p0, ev_p1, ev_p2, ev_lenL, ev_lenT, ev_lenS, ev_lenQ, ev_lenK, ev_tupL, ev_tupT, ev_lisL, ev_lisT, ev_intI, ev_intB, ev_max2, ev_min2, ev_repr, ev_reprB, ev_reprT, ev_eqRp, ev_slL, ev_slT, ev_slS, ev_seqL, ev_seqT, ev_seqS, ev_inL, ev_inT, ev_isB, ev_dO, ev_dat0, ev_dat1, ev_dat2, ev_dat3, ev_dat4, ev_dat5, ev_dat8, ev_i0, ev_i1, ev_i2, ev_l0, ev_l1, ev_l2, dats, List.zip_cons_cons, List.zip_nil_right, List.zip_nil_left, List.reverse_singleton, List.reverse_cons, List.reverse_nil, wYes, List.getElem?_cons_zero, List.getElem?_cons_succ, List.set_cons_zero, List.set_cons_succ, List.map_cons, List.map_nil, List.cons_append, List.nil_append, List.append_nil, List.replicate, List.length_cons, List.length_nil, Nat.reduceAdd, Nat.reduceSub, Option.some.injEq, List.append_eq, Nat.zero_add, exists_eq', exists_eq_left', Sl.mu.injEq, Mu.l.injEq, Sl.sh.injEq, W.p.injEq, true_and, and_true, or_true, true_or, ite_true, ite_false, if_true, if_false, Bool.false_eq_true, decide_eq_true_eq]
              exact glx one other _ (Φ := fun r => match r with
                | .d x => C' (acc ++ [x])
                | _ => False) k
            · simp only [wSeq2, wNext, wRet, wDrop, wIfS, wSet, wSetO, wSetN, wSetC, wSetIx, wSetI, wSetBx, wSetB, wAug, wApp, wAsg, wPar, wNilO, wConsO, wConsN, wL2N, putR, noUn, wVar, wC, wNil, wCons, wTup, wLst, wFz, wOp, wB, wAnd, wOr, wNot, wAndV, wOrV, wNotV, wIf, wNeg, wCB, wCL, wCallD, wRetB, wIsi, wSl, wNoPart, wPart, wRev, wFrz, wLend, wLendT, wLendL, muW, wFor, wSeq, wRange1, wRange2, wLc, wipeR, wgName, wgTup, wgLst, wgCons, wgNil, startR, wJoin, wZip, wEnum, wEnumA, wDisp1, wDGet2, wBrk, wCnt, wIxOx, wIxO, wPopSet, wPopAt, wPopAtSet, popAtW, wExt, wSet2, xE, xT, xA, xCons, xTup, xLst, xFz, xOp, xB, xNot, xAnd, xOr, xSl, xCB, xCallD, xCallX, xCallL, xRet, xDrop, xIfS, xSet, xAsg, wRaise, wTry, wHandle, outPs, wXf, wXis, wChain, wCat, wLm, gCnt, ev_addI, ev_addS, ev_addT, ev_addL, ev_mulI, ev_I, ev_I0, ev_ltI, ev_ltS, ev_ge, ev_eqI, ev_eqS, ev_eqB, ev_p0, ev_p1, ev_p2, ev_lenL, ev_lenT, ev_lenS, ev_lenQ, ev_lenK, ev_tupL, ev_tupT, ev_lisL, ev_lisT, ev_intI, ev_intB, ev_max2, ev_min2, ev_repr, ev_reprB, ev_reprT, ev_eqRp, ev_slL, ev_slT, ev_slS, ev_seqL, ev_seqT, ev_seqS, ev_inL, ev_inT, ev_isB, ev_dO, ev_dat0, ev_dat1, ev_dat2, ev_dat3, ev_dat4, ev_dat5, ev_dat8, ev_i0, ev_i1, ev_i2, ev_l0, ev_l1, ev_l2, dats, List.zip_cons_cons, List.zip_nil_right, List.zip_nil_left, List.reverse_singleton, List.reverse_cons, List.reverse_nil, wYes, List.getElem?_cons_zero, List.getElem?_cons_succ, List.set_cons_zero, List.set_cons_succ, List.map_cons, List.map_nil, List.cons_append, List.nil_append, List.append_nil, List.replicate, List.length_cons, List.length_nil, Nat.reduceAdd, Nat.reduceSub, Option.some.injEq, List.append_eq, Nat.zero_add, exists_eq', exists_eq_left', Sl.mu.injEq, Mu.l.injEq, Sl.sh.injEq, W.p.injEq, true_and, and_true, or_true, true_or, ite_true, ite_false, if_true, if_false, Bool.false_eq_true, decide_eq_true_eq]
              exact glx one other _ (Φ := fun r => match r with
                | .d x => C' (acc ++ [x])
                | _ => False) k
          · simp only [wSeq2, wNext, wRet, wDrop, wIfS, wSet, wSetO, wSetN, wSetC, wSetIx, wSetI, wSetBx, wSetB, wAug, wApp, wAsg, wPar, wNilO, wConsO, wConsN, wL2N, putR, noUn, wVar, wC, wNil, wCons, wTup, wLst, wFz, wOp, wB, wAnd, wOr, wNot, wAndV, wOrV, wNotV, wIf, wNeg, wCB, wCL, wCallD, wRetB, wIsi, wSl, wNoPart, wPart, wRev, wFrz, wLend, wLendT, wLendL, muW, wFor, wSeq, wRange1, wRange2, wLc, wipeR, wgName, wgTup, wgLst, wgCons, wgNil, startR, wJoin, wZip, wEnum, wEnumA, wDisp1, wDGet2, wBrk, wCnt, wIxOx, wIxO, wPopSet, wPopAt, wPopAtSet, popAtW, wExt, wSet2, xE, xT, xA, xCons, xTup, xLst, xFz, xOp, xB, xNot, xAnd, xOr, xSl, xCB, xCallD, xCallX, xCallL, xRet, xDrop, xIfS, xSet, xAsg, wRaise, wTry, wHandle, outPs, wXf, wXis, wChain, wCat, wLm, gCnt, ev_addI, ev_addS, ev_addT, ev_addL, ev_mulI, ev_I, ev_I0, ev_ltI, ev_ltS, ev_ge, ev_eqI, ev_eqS, ev_eqB, ev_p0, ev_p1, ev_p2, ev_lenL, ev_lenT, ev_lenS, ev_lenQ, ev_lenK, ev_tupL, ev_tupT, ev_lisL, ev_lisT, ev_intI, ev_intB, ev_max2, ev_min2, ev_repr, ev_reprB, ev_reprT, ev_eqRp, ev_slL, ev_slT, ev_slS, ev_seqL, ev_seqT, ev_seqS, ev_inL, ev_inT, ev_isB, ev_dO, ev_dat0, ev_dat1, ev_dat2, ev_dat3, ev_dat4, ev_dat5, ev_dat8, ev_i0, ev_i1, ev_i2, ev_l0, ev_l1, ev_l2, dats, List.zip_cons_cons, List.zip_nil_right, List.zip_nil_left, List.reverse_singleton, List.reverse_cons, List.reverse_nil, wYes, List.getElem?_cons_zero, List.getElem?_cons_succ, List.set_cons_zero, List.set_cons_succ, List.map_cons, List.map_nil, List.cons_append, List.nil_append, List.append_nil, List.replicate, List.length_cons, List.length_nil, Nat.reduceAdd, Nat.reduceSub, Option.some.injEq, List.append_eq, Nat.zero_add, exists_eq', exists_eq_left', Sl.mu.injEq, Mu.l.injEq, Sl.sh.injEq, W.p.injEq, true_and, and_true, or_true, true_or, ite_true, ite_false, if_true, if_false, Bool.false_eq_true, decide_eq_true_eq]
            rw [Bool.false_bne]
            cases hq : (gl one other p.2.1 == gl one other p.2.2) with
            | true =>
              simp only [hq, if_true] at hB
              exact hB _ rfl
            | false =>
              simp only [hq, Bool.false_eq_true, if_false] at hC
              simp only [Bool.false_eq_true, if_false]
              have hk : doors.take (i + 1) = doors.take i ++ [p] := by
                rw [List.take_add_one, e]
                rfl
              have em : ((doors.take i).map (glD one other)).map doorD ++ [PyData.tuple [PyData.str p.1, PyData.str (gl one other p.2.1), PyData.str (gl one other p.2.2)]] = ((doors.take (i + 1)).map (glD one other)).map doorD := by
                rw [hk, List.map_append, List.map_append]
                rfl
              rw [em]
              exact ⟨small6 (by rw [List.length_map, List.length_map, List.length_take]; omega), hC trivial _ ⟨_, _, _, _, _, rfl⟩⟩
      · rw [enumD_len, List.length_map]
        split
        · rename_i r hr
          rw [hr] at q
          exact q
        · rename_i hr
          rw [hr] at q
          rintro ρ' ⟨s3, s5, s6, s7, s8, rfl⟩
          simp only at q
          simp only [hallD, wSeq2, wNext, wRet, wDrop, wIfS, wSet, wSetO, wSetN, wSetC, wSetIx, wSetI, wSetBx, wSetB, wAug, wApp, wAsg, wPar, wNilO, wConsO, wConsN, wL2N, putR, noUn, wVar, wC, wNil, wCons, wTup, wLst, wFz, wOp, wB, wAnd, wOr, wNot, wAndV, wOrV, wNotV, wIf, wNeg, wCB, wCL, wCallD, wRetB, wIsi, wSl, wNoPart, wPart, wRev, wFrz, wLend, wLendT, wLendL, muW, wFor, wSeq, wRange1, wRange2, wLc, wipeR, wgName, wgTup, wgLst, wgCons, wgNil, startR, wJoin, wZip, wEnum, wEnumA, wDisp1, wDGet2, wBrk, wCnt, wIxOx, wIxO, wPopSet, wPopAt, wPopAtSet, popAtW, wExt, wSet2, xE, xT, xA, xCons, xTup, xLst, xFz, xOp, xB, xNot, xAnd, xOr, xSl, xCB, xCallD, xCallX, xCallL, xRet, xDrop, xIfS, xSet, xAsg, wRaise, wTry, wHandle, outPs, wXf, wXis, wChain, wCat, wLm, gCnt, ev_addI, ev_addS, ev_addT, ev_addL, ev_mulI, ev_I, ev_I0, ev_ltI, ev_ltS, ev_ge, ev_eqI, ev_eqS, ev_eqB, ev_p0, ev_p1, ev_p2, ev_lenL, ev_lenT, ev_lenS, ev_lenQ, ev_lenK, ev_tupL, ev_tupT, ev_lisL, ev_lisT, ev_intI, ev_intB, ev_max2, ev_min2, ev_repr, ev_reprB, ev_reprT, ev_eqRp, ev_slL, ev_slT, ev_slS, ev_seqL, ev_seqT, ev_seqS, ev_inL, ev_inT, ev_isB, ev_dO, ev_dat0, ev_dat1, ev_dat2, ev_dat3, ev_dat4, ev_dat5, ev_dat8, ev_i0, ev_i1, ev_i2, ev_l0, ev_l1, ev_l2, dats, List.zip_cons_cons, List.zip_nil_right, List.zip_nil_left, List.reverse_singleton, List.reverse_cons, List.reverse_nil, wYes, List.getElem?_cons_zero, List.getElem?_cons_succ, List.set_cons_zero, List.set_cons_succ, List.map_cons, List.map_nil, List.cons_append, List.nil_append, List.append_nil, List.replicate, List.length_cons, List.length_nil, Nat.reduceAdd, Nat.reduceSub, Option.some.injEq, List.append_eq, Nat.zero_add, exists_eq', exists_eq_left', Sl.mu.injEq, Mu.l.injEq, Sl.sh.injEq, W.p.injEq, true_and, and_true, or_true, true_or, ite_true, ite_false, if_true, if_false, Bool.false_eq_true, decide_eq_true_eq]
          rw [Bool.false_bne]
          cases hq : (one == other) with
          | true =>
            simp only [hq, if_true] at q
            exact q
          | false =>
            simp only [hq, Bool.false_eq_true, if_false] at q
            simp only [Bool.false_eq_true, if_false]
            refine compW_filt (keep := fun x : Str => !(x == other)) (g := fun x => PyData.str x) names [] (fun x _ acc C k => ?_) ?_
            · simp only [wSeq2, wNext, wRet, wDrop, wIfS, wSet, wSetO, wSetN, wSetC, wSetIx, wSetI, wSetBx, wSetB, wAug, wApp, wAsg, wPar, wNilO, wConsO, wConsN, wL2N, putR, noUn, wVar, wC, wNil, wCons, wTup, wLst, wFz, wOp, wB, wAnd, wOr, wNot, wAndV, wOrV, wNotV, wIf, wNeg, wCB, wCL, wCallD, wRetB, wIsi, wSl, wNoPart, wPart, wRev, wFrz, wLend, wLendT, wLendL, muW, wFor, wSeq, wRange1, wRange2, wLc, wipeR, wgName, wgTup, wgLst, wgCons, wgNil, startR, wJoin, wZip, wEnum, wEnumA, wDisp1, wDGet2, wBrk, wCnt, wIxOx, wIxO, wPopSet, wPopAt, wPopAtSet, popAtW, wExt, wSet2, xE, xT, xA, xCons, xTup, xLst, xFz, xOp, xB, xNot, xAnd, xOr, xSl, xCB, xCallD, xCallX, xCallL, xRet, xDrop, xIfS, xSet, xAsg, wRaise, wTry, wHandle, outPs, wXf, wXis, wChain, wCat, wLm, gCnt, ev_addI, ev_addS, ev_addT, ev_addL, ev_mulI, ev_I, ev_I0, ev_ltI, ev_ltS, ev_ge, ev_eqI, ev_eqS, ev_eqB, ev_p0, ev_p1, ev_p2, ev_lenL, ev_lenT, ev_lenS, ev_lenQ, ev_lenK, ev_tupL, ev_tupT, ev_lisL, ev_lisT, ev_intI, ev_intB, ev_max2, ev_min2, ev_repr, ev_reprB, ev_reprT, ev_eqRp, ev_slL, ev_slT, ev_slS, ev_seqL, ev_seqT, ev_seqS, ev_inL, ev_inT, ev_isB, ev_dO, ev_dat0, ev_dat1, ev_dat2, ev_dat3, ev_dat4, ev_dat5, ev_dat8, ev_i0, ev_i1, ev_i2, ev_l0, ev_l1, ev_l2, dats, List.zip_cons_cons, List.zip_nil_right, List.zip_nil_left, List.reverse_singleton, List.reverse_cons, List.reverse_nil, wYes, List.getElem?_cons_zero, List.getElem?_cons_succ, List.set_cons_zero, List.set_cons_succ, List.map_cons, List.map_nil, List.cons_append, List.nil_append, List.append_nil, List.replicate, List.length_cons, List.length_nil, Nat.reduceAdd, Nat.reduceSub, Option.some.injEq, List.append_eq, Nat.zero_add, exists_eq', exists_eq_left', Sl.mu.injEq, Mu.l.injEq, Sl.sh.injEq, W.p.injEq, true_and, and_true, or_true, true_or, ite_true, ite_false, if_true, if_false, Bool.false_eq_true, decide_eq_true_eq]
              rw [Bool.true_bne]
              cases hx : (x == other) with
              | true =>
                simp only [hx, Bool.not_true, Bool.false_eq_true, if_false, List.append_nil] at k
                exact k
              | false =>
                simp only [hx, Bool.not_false, if_true] at k
                exact k
            · rw [List.nil_append, List.take_length]
              refine ⟨?_, q⟩
              rw [noList]
              exact drs_noList _
    · simp only [if_neg h2] at q
      rw [decide_eq_false h2]
      exact q
  · simp only [if_neg h1] at q
    rw [decide_eq_false h1]
    exact q
theorem valgl (one other x : Str) : (valD [((Sum.inr other : Key), PyData.str one)] (Sum.inr x)).getD (PyData.str x) = PyData.str (gl one other x) := by
  unfold valD gl
  by_cases h : x = other
  · subst h
    simp
  · have h2 : ¬ (Sum.inr other : Key) = Sum.inr x := fun e => h (Sum.inr.inj e).symm
    have h3 : (x == other) = false := by simpa using h
    rw [List.find?_cons_of_neg (by simpa using fun e => h e.symm), h3]
    rfl
theorem r_gl (one other x : Str) {Ψ : W → Prop} (q : Ψ (.d (.str (gl one other x)))) : oIx (.d (.list [.str x, .str one])) (.d (.int (if (false != (x == other)) = true then 1 else 0))) Ψ := by
  unfold gl at q
  rw [Bool.false_bne]
  cases h : (x == other) with
  | true =>
    rw [h] at q
    exact r_ixl (by decide) (by simp) fun d e => by
      cases e
      exact q
  | false =>
    rw [h] at q
    exact r_ixl (by decide) (by simp) fun d e => by
      cases e
      exact q
theorem strs_noList : ∀ xs : List Str, noListA (xs.map PyData.str) = true
  | [] => rfl
  | x :: xs => by rw [List.map_cons, noListA, strs_noList xs]; rfl
theorem places_noList : ∀ xs : List (Str × Str), noListA (xs.map placeD) = true
  | [] => rfl
  | x :: xs => by rw [List.map_cons, noListA, places_noList xs]; rfl
def F_glue_state : FW := fun ws Φ => ∃ faces places one other, ws = [.d (stateD faces places), .d (.str one), .d (.str other)] ∧ Φ (.d (stateD (faces.map (gl one other)) (places.map fun p => (p.1, gl one other p.2))))
theorem l_glue_state (ws : List W) (Φ : W → Prop) (h : F_glue_state ws Φ) : ws.length = 3 := by
  obtain ⟨_, _, _, _, rfl, _⟩ := h
  rfl
theorem m_glue_state (ws : List W) (Φ : W → Prop) (h : F_glue_state ws Φ) : w_glue_state (startR n_glue_state ws) ⟨fun _ => Φ (.d .none), Φ, fun _ => False, fun _ => False, fun _ _ => False⟩ := by
  obtain ⟨faces, places, one, other, rfl, q⟩ := h
  simp only [w_glue_state, n_glue_state, stateD, keyD, wSeq2, wNext, wRet, wDrop, wIfS, wSet, wSetO, wSetN, wSetC, wSetIx, wSetI, wSetBx, wSetB, wAug, wApp, wAsg, wPar, wNilO, wConsO, wConsN, wL2N, putR, noUn, wVar, wC, wNil, wCons, wTup, wLst, wFz, wOp, wB, wAnd, wOr, wNot, wAndV, wOrV, wNotV, wIf, wNeg, wCB, wCL, wCallD, wRetB, wIsi, wSl, wNoPart, wPart, wRev, wFrz, wLend, wLendT, wLendL, muW, wFor, wSeq, wRange1, wRange2, wLc, wipeR, wgName, wgTup, wgLst, wgCons, wgNil, startR, wJoin, wZip, wEnum, wEnumA, wDisp1, wDGet2, wBrk, wCnt, wIxOx, wIxO, wPopSet, wPopAt, wPopAtSet, popAtW, wExt, wSet2, xE, xT, xA, xCons, xTup, xLst, xFz, xOp, xB, xNot, xAnd, xOr, xSl, xCB, xCallD, xCallX, xCallL, xRet, xDrop, xIfS, xSet, xAsg, wRaise, wTry, wHandle, outPs, wXf, wXis, wChain, wCat, wLm, gCnt, ev_addI, ev_addS, ev_addT, ev_addL, ev_mulI, ev_I, ev_I0, ev_ltI, ev_ltS, ev_ge, ev_eqI, ev_eqS, ev_eqB, ev_p0, ev_p1, ev_p2, ev_lenL, ev_lenT, ev_lenS, ev_lenQ, ev_lenK, ev_tupL, ev_tupT, ev_lisL, ev_lisT, ev_intI, ev_intB, ev_max2, ev_min2, ev_repr, ev_reprB, ev_reprT, ev_eqRp, ev_slL, ev_slT, ev_slS, ev_seqL, ev_seqT, ev_seqS, ev_inL, ev_inT, ev_isB, ev_dO, ev_dat0, ev_dat1, ev_dat2, ev_dat3, ev_dat4, ev_dat5, ev_dat8, ev_i0, ev_i1, ev_i2, ev_l0, ev_l1, ev_l2, dats, List.zip_cons_cons, List.zip_nil_right, List.zip_nil_left, List.reverse_singleton, List.reverse_cons, List.reverse_nil, wYes, List.getElem?_cons_zero, List.getElem?_cons_succ, List.set_cons_zero, List.set_cons_succ, List.map_cons, List.map_nil, List.cons_append, List.nil_append, List.append_nil, List.replicate, List.length_cons, List.length_nil, Nat.reduceAdd, Nat.reduceSub, Option.some.injEq, List.append_eq, Nat.zero_add, exists_eq', exists_eq_left', Sl.mu.injEq, Mu.l.injEq, Sl.sh.injEq, W.p.injEq, true_and, and_true, or_true, true_or, ite_true, ite_false, if_true, if_false, Bool.false_eq_true, decide_eq_true_eq]
  refine compW_mp (g := fun x => PyData.str (gl one other x)) faces (fun x _ acc C k => ?_) ?_
  · simp only [keyD, valgl, wSeq2, wNext, wRet, wDrop, wIfS, wSet, wSetO, wSetN, wSetC, wSetIx, wSetI, wSetBx, wSetB, wAug, wApp, wAsg, wPar, wNilO, wConsO, wConsN, wL2N, putR, noUn, wVar, wC, wNil, wCons, wTup, wLst, wFz, wOp, wB, wAnd, wOr, wNot, wAndV, wOrV, wNotV, wIf, wNeg, wCB, wCL, wCallD, wRetB, wIsi, wSl, wNoPart, wPart, wRev, wFrz, wLend, wLendT, wLendL, muW, wFor, wSeq, wRange1, wRange2, wLc, wipeR, wgName, wgTup, wgLst, wgCons, wgNil, startR, wJoin, wZip, wEnum, wEnumA, wDisp1, wDGet2, wBrk, wCnt, wIxOx, wIxO, wPopSet, wPopAt, wPopAtSet, popAtW, wExt, wSet2, xE, xT, xA, xCons, xTup, xLst, xFz, xOp, xB, xNot, xAnd, xOr, xSl, xCB, xCallD, xCallX, xCallL, xRet, xDrop, xIfS, xSet, xAsg, wRaise, wTry, wHandle, outPs, wXf, wXis, wChain, wCat, wLm, gCnt, ev_addI, ev_addS, ev_addT, ev_addL, ev_mulI, ev_I, ev_I0, ev_ltI, ev_ltS, ev_ge, ev_eqI, ev_eqS, ev_eqB, ev_p0, ev_p1, ev_p2, ev_lenL, ev_lenT, ev_lenS, ev_lenQ, ev_lenK, ev_tupL, ev_tupT, ev_lisL, ev_lisT, ev_intI, ev_intB, ev_max2, ev_min2, ev_repr, ev_reprB, ev_reprT, ev_eqRp, ev_slL, ev_slT, ev_slS, ev_seqL, ev_seqT, ev_seqS, ev_inL, ev_inT, ev_isB, ev_dO, ev_dat0, ev_dat1, ev_dat2, ev_dat3, ev_dat4, ev_dat5, ev_dat8, ev_i0, ev_i1, ev_i2, ev_l0, ev_l1, ev_l2, dats, List.zip_cons_cons, List.zip_nil_right, List.zip_nil_left, List.reverse_singleton, List.reverse_cons, List.reverse_nil, wYes, List.getElem?_cons_zero, List.getElem?_cons_succ, List.set_cons_zero, List.set_cons_succ, List.map_cons, List.map_nil, List.cons_append, List.nil_append, List.append_nil, List.replicate, List.length_cons, List.length_nil, Nat.reduceAdd, Nat.reduceSub, Option.some.injEq, List.append_eq, Nat.zero_add, exists_eq', exists_eq_left', Sl.mu.injEq, Mu.l.injEq, Sl.sh.injEq, W.p.injEq, true_and, and_true, or_true, true_or, ite_true, ite_false, if_true, if_false, Bool.false_eq_true, decide_eq_true_eq]
    exact k
  have e1 : faces.map (fun x => PyData.str (gl one other x)) = (faces.map (gl one other)).map PyData.str := by rw [List.map_map]; rfl
  rw [e1]
  refine ⟨strs_noList _, ?_⟩
  refine compW_mp (g := fun p : Str × Str => placeD (p.1, gl one other p.2)) places (fun p _ acc C k => ?_) ?_
  · simp only [placeD, keyD, valgl, wSeq2, wNext, wRet, wDrop, wIfS, wSet, wSetO, wSetN, wSetC, wSetIx, wSetI, wSetBx, wSetB, wAug, wApp, wAsg, wPar, wNilO, wConsO, wConsN, wL2N, putR, noUn, wVar, wC, wNil, wCons, wTup, wLst, wFz, wOp, wB, wAnd, wOr, wNot, wAndV, wOrV, wNotV, wIf, wNeg, wCB, wCL, wCallD, wRetB, wIsi, wSl, wNoPart, wPart, wRev, wFrz, wLend, wLendT, wLendL, muW, wFor, wSeq, wRange1, wRange2, wLc, wipeR, wgName, wgTup, wgLst, wgCons, wgNil, startR, wJoin, wZip, wEnum, wEnumA, wDisp1, wDGet2, wBrk, wCnt, wIxOx, wIxO, wPopSet, wPopAt, wPopAtSet, popAtW, wExt, wSet2, xE, xT, xA, xCons, xTup, xLst, xFz, xOp, xB, xNot, xAnd, xOr, xSl, xCB, xCallD, xCallX, xCallL, xRet, xDrop, xIfS, xSet, xAsg, wRaise, wTry, wHandle, outPs, wXf, wXis, wChain, wCat, wLm, gCnt, ev_addI, ev_addS, ev_addT, ev_addL, ev_mulI, ev_I, ev_I0, ev_ltI, ev_ltS, ev_ge, ev_eqI, ev_eqS, ev_eqB, ev_p0, ev_p1, ev_p2, ev_lenL, ev_lenT, ev_lenS, ev_lenQ, ev_lenK, ev_tupL, ev_tupT, ev_lisL, ev_lisT, ev_intI, ev_intB, ev_max2, ev_min2, ev_repr, ev_reprB, ev_reprT, ev_eqRp, ev_slL, ev_slT, ev_slS, ev_seqL, ev_seqT, ev_seqS, ev_inL, ev_inT, ev_isB, ev_dO, ev_dat0, ev_dat1, ev_dat2, ev_dat3, ev_dat4, ev_dat5, ev_dat8, ev_i0, ev_i1, ev_i2, ev_l0, ev_l1, ev_l2, dats, List.zip_cons_cons, List.zip_nil_right, List.zip_nil_left, List.reverse_singleton, List.reverse_cons, List.reverse_nil, wYes, List.getElem?_cons_zero, List.getElem?_cons_succ, List.set_cons_zero, List.set_cons_succ, List.map_cons, List.map_nil, List.cons_append, List.nil_append, List.append_nil, List.replicate, List.length_cons, List.length_nil, Nat.reduceAdd, Nat.reduceSub, Option.some.injEq, List.append_eq, Nat.zero_add, exists_eq', exists_eq_left', Sl.mu.injEq, Mu.l.injEq, Sl.sh.injEq, W.p.injEq, true_and, and_true, or_true, true_or, ite_true, ite_false, if_true, if_false, Bool.false_eq_true, decide_eq_true_eq]
    exact k
  have e2 : places.map (fun p : Str × Str => placeD (p.1, gl one other p.2)) = (places.map fun p => (p.1, gl one other p.2)).map placeD := by rw [List.map_map]; rfl
  rw [e2]
  exact ⟨places_noList _, q⟩
def F_law_glued : FW := F_glue_state
theorem m_law_glued (ws : List W) (Φ : W → Prop) (h : F_law_glued ws Φ) : w_law_glued (startR n_law_glued ws) ⟨fun _ => Φ (.d .none), Φ, fun _ => False, fun _ => False, fun _ _ => False⟩ := by
  obtain ⟨faces, places, one, other, rfl, q⟩ := h
  simp only [w_law_glued, n_law_glued, stateD, wSeq2, wNext, wRet, wDrop, wIfS, wSet, wSetO, wSetN, wSetC, wSetIx, wSetI, wSetBx, wSetB, wAug, wApp, wAsg, wPar, wNilO, wConsO, wConsN, wL2N, putR, noUn, wVar, wC, wNil, wCons, wTup, wLst, wFz, wOp, wB, wAnd, wOr, wNot, wAndV, wOrV, wNotV, wIf, wNeg, wCB, wCL, wCallD, wRetB, wIsi, wSl, wNoPart, wPart, wRev, wFrz, wLend, wLendT, wLendL, muW, wFor, wSeq, wRange1, wRange2, wLc, wipeR, wgName, wgTup, wgLst, wgCons, wgNil, startR, wJoin, wZip, wEnum, wEnumA, wDisp1, wDGet2, wBrk, wCnt, wIxOx, wIxO, wPopSet, wPopAt, wPopAtSet, popAtW, wExt, wSet2, xE, xT, xA, xCons, xTup, xLst, xFz, xOp, xB, xNot, xAnd, xOr, xSl, xCB, xCallD, xCallX, xCallL, xRet, xDrop, xIfS, xSet, xAsg, wRaise, wTry, wHandle, outPs, wXf, wXis, wChain, wCat, wLm, gCnt, ev_addI, ev_addS, ev_addT, ev_addL, ev_mulI, ev_I, ev_I0, ev_ltI, ev_ltS, ev_ge, ev_eqI, ev_eqS, ev_eqB, ev_p0, ev_p1, ev_p2, ev_lenL, ev_lenT, ev_lenS, ev_lenQ, ev_lenK, ev_tupL, ev_tupT, ev_lisL, ev_lisT, ev_intI, ev_intB, ev_max2, ev_min2, ev_repr, ev_reprB, ev_reprT, ev_eqRp, ev_slL, ev_slT, ev_slS, ev_seqL, ev_seqT, ev_seqS, ev_inL, ev_inT, ev_isB, ev_dO, ev_dat0, ev_dat1, ev_dat2, ev_dat3, ev_dat4, ev_dat5, ev_dat8, ev_i0, ev_i1, ev_i2, ev_l0, ev_l1, ev_l2, dats, List.zip_cons_cons, List.zip_nil_right, List.zip_nil_left, List.reverse_singleton, List.reverse_cons, List.reverse_nil, wYes, List.getElem?_cons_zero, List.getElem?_cons_succ, List.set_cons_zero, List.set_cons_succ, List.map_cons, List.map_nil, List.cons_append, List.nil_append, List.append_nil, List.replicate, List.length_cons, List.length_nil, Nat.reduceAdd, Nat.reduceSub, Option.some.injEq, List.append_eq, Nat.zero_add, exists_eq', exists_eq_left', Sl.mu.injEq, Mu.l.injEq, Sl.sh.injEq, W.p.injEq, true_and, and_true, or_true, true_or, ite_true, ite_false, if_true, if_false, Bool.false_eq_true, decide_eq_true_eq]
  refine compW_mp (g := fun x => PyData.str (gl one other x)) faces (fun x _ acc C k => ?_) ?_
  · simp only [wSeq2, wNext, wRet, wDrop, wIfS, wSet, wSetO, wSetN, wSetC, wSetIx, wSetI, wSetBx, wSetB, wAug, wApp, wAsg, wPar, wNilO, wConsO, wConsN, wL2N, putR, noUn, wVar, wC, wNil, wCons, wTup, wLst, wFz, wOp, wB, wAnd, wOr, wNot, wAndV, wOrV, wNotV, wIf, wNeg, wCB, wCL, wCallD, wRetB, wIsi, wSl, wNoPart, wPart, wRev, wFrz, wLend, wLendT, wLendL, muW, wFor, wSeq, wRange1, wRange2, wLc, wipeR, wgName, wgTup, wgLst, wgCons, wgNil, startR, wJoin, wZip, wEnum, wEnumA, wDisp1, wDGet2, wBrk, wCnt, wIxOx, wIxO, wPopSet, wPopAt, wPopAtSet, popAtW, wExt, wSet2, xE, xT, xA, xCons, xTup, xLst, xFz, xOp, xB, xNot, xAnd, xOr, xSl, xCB, xCallD, xCallX, xCallL, xRet, xDrop, xIfS, xSet, xAsg, wRaise, wTry, wHandle, outPs, wXf, wXis, wChain, wCat, wLm, gCnt, ev_addI, ev_addS, ev_addT, ev_addL, ev_mulI, ev_I, ev_I0, ev_ltI, ev_ltS, ev_ge, ev_eqI, ev_eqS, ev_eqB, ev_p0, ev_p1, ev_p2, ev_lenL, ev_lenT, ev_lenS, ev_lenQ, ev_lenK, ev_tupL, ev_tupT, ev_lisL, ev_lisT, ev_intI, ev_intB, ev_max2, ev_min2, ev_repr, ev_reprB, ev_reprT, ev_eqRp, ev_slL, ev_slT, ev_slS, ev_seqL, ev_seqT, ev_seqS, ev_inL, ev_inT, ev_isB, ev_dO, ev_dat0, ev_dat1, ev_dat2, ev_dat3, ev_dat4, ev_dat5, ev_dat8, ev_i0, ev_i1, ev_i2, ev_l0, ev_l1, ev_l2, dats, List.zip_cons_cons, List.zip_nil_right, List.zip_nil_left, List.reverse_singleton, List.reverse_cons, List.reverse_nil, wYes, List.getElem?_cons_zero, List.getElem?_cons_succ, List.set_cons_zero, List.set_cons_succ, List.map_cons, List.map_nil, List.cons_append, List.nil_append, List.append_nil, List.replicate, List.length_cons, List.length_nil, Nat.reduceAdd, Nat.reduceSub, Option.some.injEq, List.append_eq, Nat.zero_add, exists_eq', exists_eq_left', Sl.mu.injEq, Mu.l.injEq, Sl.sh.injEq, W.p.injEq, true_and, and_true, or_true, true_or, ite_true, ite_false, if_true, if_false, Bool.false_eq_true, decide_eq_true_eq]
    exact r_gl one other x k
  have e1 : faces.map (fun x => PyData.str (gl one other x)) = (faces.map (gl one other)).map PyData.str := by rw [List.map_map]; rfl
  rw [e1]
  refine compW_mp (g := fun p : Str × Str => placeD (p.1, gl one other p.2)) places (fun p _ acc C k => ?_) ?_
  · simp only [placeD, wSeq2, wNext, wRet, wDrop, wIfS, wSet, wSetO, wSetN, wSetC, wSetIx, wSetI, wSetBx, wSetB, wAug, wApp, wAsg, wPar, wNilO, wConsO, wConsN, wL2N, putR, noUn, wVar, wC, wNil, wCons, wTup, wLst, wFz, wOp, wB, wAnd, wOr, wNot, wAndV, wOrV, wNotV, wIf, wNeg, wCB, wCL, wCallD, wRetB, wIsi, wSl, wNoPart, wPart, wRev, wFrz, wLend, wLendT, wLendL, muW, wFor, wSeq, wRange1, wRange2, wLc, wipeR, wgName, wgTup, wgLst, wgCons, wgNil, startR, wJoin, wZip, wEnum, wEnumA, wDisp1, wDGet2, wBrk, wCnt, wIxOx, wIxO, wPopSet, wPopAt, wPopAtSet, popAtW, wExt, wSet2, xE, xT, xA, xCons, xTup, xLst, xFz, xOp, xB, xNot, xAnd, xOr, xSl, xCB, xCallD, xCallX, xCallL, xRet, xDrop, xIfS, xSet, xAsg, wRaise, wTry, wHandle, outPs, wXf, wXis, wChain, wCat, wLm, gCnt, ev_addI, ev_addS, ev_addT, ev_addL, ev_mulI, ev_I, ev_I0, ev_ltI, ev_ltS, ev_ge, ev_eqI, ev_eqS, ev_eqB, ev_p0, ev_p1, ev_p2, ev_lenL, ev_lenT, ev_lenS, ev_lenQ, ev_lenK, ev_tupL, ev_tupT, ev_lisL, ev_lisT, ev_intI, ev_intB, ev_max2, ev_min2, ev_repr, ev_reprB, ev_reprT, ev_eqRp, ev_slL, ev_slT, ev_slS, ev_seqL, ev_seqT, ev_seqS, ev_inL, ev_inT, ev_isB, ev_dO, ev_dat0, ev_dat1, ev_dat2, ev_dat3, ev_dat4, ev_dat5, ev_dat8, ev_i0, ev_i1, ev_i2, ev_l0, ev_l1, ev_l2, dats, List.zip_cons_cons, List.zip_nil_right, List.zip_nil_left, List.reverse_singleton, List.reverse_cons, List.reverse_nil, wYes, List.getElem?_cons_zero, List.getElem?_cons_succ, List.set_cons_zero, List.set_cons_succ, List.map_cons, List.map_nil, List.cons_append, List.nil_append, List.append_nil, List.replicate, List.length_cons, List.length_nil, Nat.reduceAdd, Nat.reduceSub, Option.some.injEq, List.append_eq, Nat.zero_add, exists_eq', exists_eq_left', Sl.mu.injEq, Mu.l.injEq, Sl.sh.injEq, W.p.injEq, true_and, and_true, or_true, true_or, ite_true, ite_false, if_true, if_false, Bool.false_eq_true, decide_eq_true_eq]
    refine r_gl one other p.2 ?_
    simp only [wSeq2, wNext, wRet, wDrop, wIfS, wSet, wSetO, wSetN, wSetC, wSetIx, wSetI, wSetBx, wSetB, wAug, wApp, wAsg, wPar, wNilO, wConsO, wConsN, wL2N, putR, noUn, wVar, wC, wNil, wCons, wTup, wLst, wFz, wOp, wB, wAnd, wOr, wNot, wAndV, wOrV, wNotV, wIf, wNeg, wCB, wCL, wCallD, wRetB, wIsi, wSl, wNoPart, wPart, wRev, wFrz, wLend, wLendT, wLendL, muW, wFor, wSeq, wRange1, wRange2, wLc, wipeR, wgName, wgTup, wgLst, wgCons, wgNil, startR, wJoin, wZip, wEnum, wEnumA, wDisp1, wDGet2, wBrk, wCnt, wIxOx, wIxO, wPopSet, wPopAt, wPopAtSet, popAtW, wExt, wSet2, xE, xT, xA, xCons, xTup, xLst, xFz, xOp, xB, xNot, xAnd, xOr, xSl, xCB, xCallD, xCallX, xCallL, xRet, xDrop, xIfS, xSet, xAsg, wRaise, wTry, wHandle, outPs, wXf, wXis, wChain, wCat, wLm, gCnt, ev_addI, ev_addS, ev_addT, ev_addL, ev_mulI, ev_I, ev_I0, ev_ltI, ev_ltS, ev_ge, ev_eqI, ev_eqS, ev_eqB, ev_p0, ev_p1, ev_p2, ev_lenL, ev_lenT, ev_lenS, ev_lenQ, ev_lenK, ev_tupL, ev_tupT, ev_lisL, ev_lisT, ev_intI, ev_intB, ev_max2, ev_min2, ev_repr, ev_reprB, ev_reprT, ev_eqRp, ev_slL, ev_slT, ev_slS, ev_seqL, ev_seqT, ev_seqS, ev_inL, ev_inT, ev_isB, ev_dO, ev_dat0, ev_dat1, ev_dat2, ev_dat3, ev_dat4, ev_dat5, ev_dat8, ev_i0, ev_i1, ev_i2, ev_l0, ev_l1, ev_l2, dats, List.zip_cons_cons, List.zip_nil_right, List.zip_nil_left, List.reverse_singleton, List.reverse_cons, List.reverse_nil, wYes, List.getElem?_cons_zero, List.getElem?_cons_succ, List.set_cons_zero, List.set_cons_succ, List.map_cons, List.map_nil, List.cons_append, List.nil_append, List.append_nil, List.replicate, List.length_cons, List.length_nil, Nat.reduceAdd, Nat.reduceSub, Option.some.injEq, List.append_eq, Nat.zero_add, exists_eq', exists_eq_left', Sl.mu.injEq, Mu.l.injEq, Sl.sh.injEq, W.p.injEq, true_and, and_true, or_true, true_or, ite_true, ite_false, if_true, if_false, Bool.false_eq_true, decide_eq_true_eq]
    exact k
  have e2 : places.map (fun p : Str × Str => placeD (p.1, gl one other p.2)) = (places.map fun p => (p.1, gl one other p.2)).map placeD := by rw [List.map_map]; rfl
  rw [e2]
  exact q
end Pd
end

section
set_option Elab.async false
set_option linter.all false
set_option maxRecDepth 100000
set_option autoImplicit false
set_option maxHeartbeats 4000000
namespace Pd
open PySem PySem.Spec PyProof.Rows L2
theorem low_inL (c : Nat) (h : 97 ≤ c ∧ c ≤ 122) : inL c = true := by
  have key : ∀ n : Nat, n < 26 → inL (97 + n) = true := by decide +kernel
  have := key (c - 97) (by omega)
  rwa [show 97 + (c - 97) = c by omega] at this
theorem nameS {x : Str} (h : NameOk x) : isNameS x = true := by
  unfold isNameS
  rw [decide_eq_true h.pos, decide_eq_true h.six, Bool.true_and, Bool.true_and, List.all_eq_true]
  exact fun c hc => low_inL c (h.low c hc)
theorem firstSome_none {p : Nat → Option Str} : ∀ {n k : Nat}, (∀ i, k ≤ i → i < k + n → p i = none) → firstSome p k n = none
  | 0, _, _ => rfl
  | n + 1, k, h => by
    rw [firstSome, h k (Nat.le_refl _) (by omega)]
    exact firstSome_none fun i h1 h2 => h i (by omega) (by omega)
theorem firstSome_all {p : Nat → Option Str} : ∀ {n k : Nat}, firstSome p k n = none → ∀ i, k ≤ i → i < k + n → p i = none
  | 0, k, _, i, h1, h2 => by omega
  | n + 1, k, h, i, h1, h2 => by
    rw [firstSome] at h
    split at h
    · cases h
    · rename_i e
      by_cases hi : i = k
      · rw [hi]; exact e
      · exact firstSome_all h i (by omega) (by omega)
theorem take_any {xs : List Str} (nd : xs.Nodup) {i : Nat} {x : Str} (h : xs[i]? = some x) : (xs.take i).any (· == x) = false := by
  rw [Bool.eq_false_iff]
  intro z
  obtain ⟨y, hy, e⟩ := List.any_eq_true.mp z
  have e' : y = x := by simpa using e
  subst e'
  obtain ⟨j, hj, hj2⟩ := List.mem_iff_getElem.mp hy
  have hj3 : j < i := by rw [List.length_take] at hj; omega
  have hi := (List.getElem?_eq_some_iff.mp h).1
  have e1 : xs[j]? = some y := by
    rw [List.getElem_take] at hj2
    rw [List.getElem?_eq_getElem (by omega), hj2]
  have := (List.getElem?_inj (show j < xs.length by omega) nd).mp (e1.trans h.symm)
  omega
theorem rooms_ok {rs : List Str} (hn : ∀ x ∈ rs, NameOk x) (nd : rs.Nodup) : roomsOut rs = none := by
  refine firstSome_none fun i _ hi => ?_
  have e : badR rs i = false := by
    unfold badR
    have hi' : i < rs.length := by omega
    rw [List.getElem?_eq_getElem hi']
    simp only
    rw [nameS (hn _ (List.getElem_mem hi')), take_any nd (List.getElem?_eq_getElem hi')]
    rfl
  show (if badR rs i = true then _ else none) = none
  rw [e]
  rfl
theorem doors_ok {rs : List Str} {ds : List Door} (hn : ∀ p ∈ ds, NameOk p.1) (nd : (ds.map (·.1)).Nodup) (h1 : ∀ p ∈ ds, p.2.1 ∈ rs ∧ p.2.2 ∈ rs ∧ p.2.1 ≠ p.2.2) : doorsOut rs ds = none := by
  refine firstSome_none fun i _ hi => ?_
  have hi' : i < ds.length := by omega
  obtain ⟨a1, a2, a3⟩ := h1 _ (List.getElem_mem hi')
  unfold badD
  rw [List.getElem?_eq_getElem hi']
  simp only
  have e1 : (ds.take i).any (fun q => q.1 == ds[i].1) = false := by
    have := take_any nd (i := i) (x := ds[i].1) (by rw [List.getElem?_map, List.getElem?_eq_getElem hi']; rfl)
    rw [← List.map_take, List.any_map] at this
    exact this
  have e3 : (ds[i].2.1 == ds[i].2.2) = false := by simpa using a3
  rw [nameS (hn _ (List.getElem_mem hi')), e1, decide_eq_true a1, decide_eq_true a2, e3]
  rfl
theorem glue_ok {names rs : List Str} {doors ds : List Door} {one other : Str} {Dn : Nat} (ok : HallOk 8 Dn names doors) (hD : Dn ≤ 12) (h : glueOut names doors one other = .res rs ds) : outD (hallD rs ds) = none := by
  unfold glueOut at h
  split at h
  · rename_i h1
    split at h
    · rename_i h2
      cases hf : firstSome (badG doors one other) 0 doors.length with
      | some r => rw [hf] at h; cases h
      | none =>
        rw [hf] at h
        simp only at h
        split at h
        · cases h
        · rename_i hne
          have hne' : one ≠ other := by simpa using hne
          cases h
          have hgl : ∀ x ∈ names, gl one other x ∈ names.filter fun x => !(x == other) := fun x hx => by
            unfold gl
            split
            · exact List.mem_filter.mpr ⟨h1, by simpa using hne'⟩
            · rename_i hx2
              exact List.mem_filter.mpr ⟨hx, by simpa using hx2⟩
          unfold outD
          rw [formOf_hall]
          simp only
          unfold hallOut
          have l1 : 1 ≤ (names.filter fun x => !(x == other)).length := List.length_pos_of_mem (hgl one h1)
          have l2 := List.length_filter_le (fun x => !(x == other)) names
          have l3 := ok.len
          have l4 := ok.dlen
          rw [if_pos ⟨l1, by omega⟩, if_neg (by rw [List.length_map]; omega), rooms_ok (fun x hx => ok.nm.ok x (List.mem_filter.mp hx).1) (ok.nm.nd.sublist List.filter_sublist)]
          refine doors_ok (fun p hp => ?_) (by rw [List.map_map]; exact ok.nd) fun p hp => ?_
          · obtain ⟨p0, hp0, rfl⟩ := List.mem_map.mp hp
            exact (ok.drs p0 hp0).ok
          · obtain ⟨p0, hp0, rfl⟩ := List.mem_map.mp hp
            refine ⟨hgl _ (ok.drs p0 hp0).one, hgl _ (ok.drs p0 hp0).two, fun e => ?_⟩
            obtain ⟨i, hi, e2⟩ := List.mem_iff_getElem.mp hp0
            have := firstSome_all hf i (Nat.zero_le _) (by omega)
            unfold badG at this
            rw [List.getElem?_eq_getElem hi, e2] at this
            simp only at this
            have e' : gl one other p0.2.1 = gl one other p0.2.2 := e
            rw [if_pos (by rw [e']; simp)] at this
            cases this
    · cases h
  · cases h
theorem doors_plain : ∀ ds : List Door, plainA (ds.map doorD) = true
  | [] => rfl
  | p :: r => by
    rw [List.map_cons, plainA, doors_plain r]
    rfl
theorem places_plain : ∀ ds : List (Str × Str), plainA (ds.map placeD) = true
  | [] => rfl
  | p :: r => by
    rw [List.map_cons, plainA, places_plain r]
    rfl
theorem places_depth : ∀ ds : List (Str × Str), PyData.depthAll (ds.map placeD) ≤ 1
  | [] => by simp [PyData.depthAll]
  | p :: r => by
    have := places_depth r
    simp only [List.map_cons, PyData.depthAll, placeD, PyData.depth]
    omega
theorem hall_plain (rs : List Str) (ds : List Door) : plainD (hallD rs ds) = true := by
  unfold hallD
  simp only [plainD, plainA, strs_plain, doors_plain, Bool.and_true]
theorem state_plain (rs : List Str) (ds : List (Str × Str)) : plainD (stateD rs ds) = true ∧ (stateD rs ds).depth ≤ 3 := by
  have := places_depth ds
  unfold stateD
  refine ⟨by simp only [plainD, plainA, strs_plain, places_plain, Bool.and_true], ?_⟩
  simp only [PyData.depth, PyData.depthAll, dA0]
  omega
theorem due_plain (g : GOut) : plainD (dueG g) = true ∧ (dueG g).depth ≤ 5 := by
  cases g with
  | room x => exact ⟨by simp only [dueG, plainD, plainA, Bool.and_true], by simp [dueG, PyData.depth, PyData.depthAll]⟩
  | hall r i => exact ⟨by simp only [dueG, plainD, plainA, Bool.and_true], by simp [dueG, PyData.depth, PyData.depthAll]⟩
  | res rs ds =>
    have := hall_depth rs ds
    refine ⟨by simp only [dueG, plainD, plainA, hall_plain, Bool.and_true], ?_⟩
    simp only [dueG, PyData.depth, PyData.depthAll]
    omega
theorem r_alike {x : D} {Φ : W → Prop} (h : plainD x = true) (hd : x.depth ≤ 8) (q : Φ (.d (.bool true))) : F_law_alike 8 [.d x, .d x] Φ := ⟨x, rfl, h, hd, by omega, q⟩
def FV : FW := fun ws Φ => F_validate_hall ws Φ fun _ => False
theorem l_FV (ws : List W) (Φ : W → Prop) (h : FV ws Φ) : ws.length = 1 := l_validate_hall ws Φ _ h
theorem places_show : ∀ row : List (Str × Str), PyData.showableAll (row.map placeD) = true
  | [] => by simp [PyData.showableAll]
  | p :: r => by simp [PyData.showableAll, PyData.showable, placeD, places_show r]
theorem places_ints : ∀ row : List (Str × Str), PyData.intsShortAll 13 (row.map placeD) = true
  | [] => by simp [PyData.intsShortAll]
  | p :: r => by simp [PyData.intsShortAll, PyData.intsShort, placeD, places_ints r]
theorem places_weight (names : List Str) (hn : ∀ x ∈ names, NameOk x) : ∀ row : List (Str × Str), (∀ p ∈ row, NameOk p.1 ∧ p.2 ∈ names) → PyData.weightAll (row.map placeD) ≤ 40 * row.length
  | [], _ => by simp [PyData.weightAll]
  | p :: r, h => by
    have ih := places_weight names hn r fun q hq => h q (List.mem_cons_of_mem _ hq)
    obtain ⟨h1, h2⟩ := h p List.mem_cons_self
    have e1 : p.1.cps.size ≤ 16 := h1.len
    have e2 : p.2.cps.size ≤ 16 := (hn _ h2).len
    simp only [List.map_cons, PyData.weightAll, placeD, PyData.weight, List.length_cons]
    omega
theorem pair_repr {R Dn m : Nat} {names : List Str} {doors : List Door} {faces : List Str} {places : List (Str × Str)} (ok : HallOk R Dn names doors) (hR : R ≤ 30) (hD : Dn ≤ 30) (so : StateOk names doors m faces places) (hm : m ≤ 30) : reprOk (.tuple [hallD names doors, stateD faces places]) = true := by
  have d1 := hall_depth names doors
  have d2 := (state_plain faces places).2
  have w1 := doors_weight names ok.nm.ok doors ok.drs
  have w2 := strs_weight names ok.nm.ok
  have w3 := strs_weight faces fun x hx => ok.nm.ok x (so.fm ok.drs x hx)
  have w4 := places_weight names ok.nm.ok places fun p hp => ⟨so.wk p hp, so.rm p hp⟩
  have l1 := ok.len
  have l2 := ok.dlen
  have l3 := so.fl
  have l4 := so.pl
  have d3 : PyData.depth (.tuple [hallD names doors, stateD faces places]) ≤ 50 := by
    simp only [PyData.depth, PyData.depthAll]
    omega
  unfold reprOk
  rw [decide_eq_true (show PyData.depth (.tuple [hallD names doors, stateD faces places]) ≤ 64 by omega)]
  simp only [hallD, stateD, PyData.showable, PyData.showableAll, doors_show, strs_show, places_show, PyData.intsShort, PyData.intsShortAll, doors_ints, strs_ints, places_ints, Bool.and_true, Bool.true_and, Bool.and_eq_true, decide_eq_true_eq, PyData.weight, PyData.weightAll]
  omega
theorem tail4 {names : List Str} {faces : List Str} {places : List (Str × Str)} {one other : Str} {x : D} {Φ : W → Prop} {Cf : Prop} (hx : reprOk x = true) (hc : Cf) :
    min (PyData.depthAll (names.map PyData.str)) (PyData.str one).depth ≤ 63 ∧
      if (false != (names.map PyData.str).any fun y => PyData.eqv y (PyData.str one)) = true then
        min (PyData.depthAll (names.map PyData.str)) (PyData.str other).depth ≤ 63 ∧
          if (false != (names.map PyData.str).any fun y => PyData.eqv y (PyData.str other)) = true then
            F_glue_state [W.d (stateD faces places), W.d (PyData.str one), W.d (PyData.str other)]
              (dOnly fun r =>
                F_law_glued [W.d (stateD faces places), W.d (PyData.str one), W.d (PyData.str other)]
                  (dOnly fun r_1 =>
                    F_law_alike 8 [r, r_1]
                      (dOnly fun r =>
                        match r with
                        | W.d (PyData.bool k) =>
                          if (!k) = true then Φ (W.d (PyData.bool false))
                          else
                            reprOk x = true ∧ if (true != decide True) = true then Φ (W.d (PyData.bool false)) else Cf
                        | _ => False)))
          else reprOk x = true ∧ if (true != decide True) = true then Φ (W.d (PyData.bool false)) else Cf
      else reprOk x = true ∧ if (true != decide True) = true then Φ (W.d (PyData.bool false)) else Cf := by
  have fin : reprOk x = true ∧ if (true != decide True) = true then Φ (W.d (PyData.bool false)) else Cf := ⟨hx, by
    simp only [decide_true, bne_self_eq_false, Bool.false_eq_true, if_false]
    exact hc⟩
  refine ⟨by rw [d0]; omega, ?_⟩
  split
  · refine ⟨by rw [d0]; omega, ?_⟩
    split
    · refine ⟨faces, places, one, other, rfl, ?_⟩
      simp only [wSeq2, wNext, wRet, wDrop, wIfS, wSet, wSetO, wSetN, wSetC, wSetIx, wSetI, wSetBx, wSetB, wAug, wApp, wAsg, wPar, wNilO, wConsO, wConsN, wL2N, putR, noUn, wVar, wC, wNil, wCons, wTup, wLst, wFz, wOp, wB, wAnd, wOr, wNot, wAndV, wOrV, wNotV, wIf, wNeg, wCB, wCL, wCallD, wRetB, wIsi, wSl, wNoPart, wPart, wRev, wFrz, wLend, wLendT, wLendL, muW, wFor, wSeq, wRange1, wRange2, wLc, wipeR, wgName, wgTup, wgLst, wgCons, wgNil, startR, wJoin, wZip, wEnum, wEnumA, wDisp1, wDGet2, wBrk, wCnt, wIxOx, wIxO, wPopSet, wPopAt, wPopAtSet, popAtW, wExt, wSet2, xE, xT, xA, xCons, xTup, xLst, xFz, xOp, xB, xNot, xAnd, xOr, xSl, xCB, xCallD, xCallX, xCallL, xRet, xDrop, xIfS, xSet, xAsg, wRaise, wTry, wHandle, outPs, wXf, wXis, wChain, wCat, wLm, gCnt, ev_addI, ev_addS, ev_addT, ev_addL, ev_mulI, ev_I, ev_I0, ev_ltI, ev_ltS, ev_ge, ev_eqI, ev_eqS, ev_eqB, ev_p0, ev_p1, ev_p2, ev_lenL, ev_lenT, ev_lenS, ev_lenQ, ev_lenK, ev_tupL, ev_tupT, ev_lisL, ev_lisT, ev_intI, ev_intB, ev_max2, ev_min2, ev_repr, ev_reprB, ev_reprT, ev_eqRp, ev_slL, ev_slT, ev_slS, ev_seqL, ev_seqT, ev_seqS, ev_inL, ev_inT, ev_isB, ev_dO, ev_dat0, ev_dat1, ev_dat2, ev_dat3, ev_dat4, ev_dat5, ev_dat8, ev_i0, ev_i1, ev_i2, ev_l0, ev_l1, ev_l2, dats, List.zip_cons_cons, List.zip_nil_right, List.zip_nil_left, List.reverse_singleton, List.reverse_cons, List.reverse_nil, wYes, List.getElem?_cons_zero, List.getElem?_cons_succ, List.set_cons_zero, List.set_cons_succ, List.map_cons, List.map_nil, List.cons_append, List.nil_append, List.append_nil, List.replicate, List.length_cons, List.length_nil, Nat.reduceAdd, Nat.reduceSub, Option.some.injEq, List.append_eq, Nat.zero_add, exists_eq', exists_eq_left', Sl.mu.injEq, Mu.l.injEq, Sl.sh.injEq, W.p.injEq, true_and, and_true, or_true, true_or, ite_true, ite_false, if_true, if_false, Bool.false_eq_true, decide_eq_true_eq]
      refine ⟨faces, places, one, other, rfl, ?_⟩
      simp only [wSeq2, wNext, wRet, wDrop, wIfS, wSet, wSetO, wSetN, wSetC, wSetIx, wSetI, wSetBx, wSetB, wAug, wApp, wAsg, wPar, wNilO, wConsO, wConsN, wL2N, putR, noUn, wVar, wC, wNil, wCons, wTup, wLst, wFz, wOp, wB, wAnd, wOr, wNot, wAndV, wOrV, wNotV, wIf, wNeg, wCB, wCL, wCallD, wRetB, wIsi, wSl, wNoPart, wPart, wRev, wFrz, wLend, wLendT, wLendL, muW, wFor, wSeq, wRange1, wRange2, wLc, wipeR, wgName, wgTup, wgLst, wgCons, wgNil, startR, wJoin, wZip, wEnum, wEnumA, wDisp1, wDGet2, wBrk, wCnt, wIxOx, wIxO, wPopSet, wPopAt, wPopAtSet, popAtW, wExt, wSet2, xE, xT, xA, xCons, xTup, xLst, xFz, xOp, xB, xNot, xAnd, xOr, xSl, xCB, xCallD, xCallX, xCallL, xRet, xDrop, xIfS, xSet, xAsg, wRaise, wTry, wHandle, outPs, wXf, wXis, wChain, wCat, wLm, gCnt, ev_addI, ev_addS, ev_addT, ev_addL, ev_mulI, ev_I, ev_I0, ev_ltI, ev_ltS, ev_ge, ev_eqI, ev_eqS, ev_eqB, ev_p0, ev_p1, ev_p2, ev_lenL, ev_lenT, ev_lenS, ev_lenQ, ev_lenK, ev_tupL, ev_tupT, ev_lisL, ev_lisT, ev_intI, ev_intB, ev_max2, ev_min2, ev_repr, ev_reprB, ev_reprT, ev_eqRp, ev_slL, ev_slT, ev_slS, ev_seqL, ev_seqT, ev_seqS, ev_inL, ev_inT, ev_isB, ev_dO, ev_dat0, ev_dat1, ev_dat2, ev_dat3, ev_dat4, ev_dat5, ev_dat8, ev_i0, ev_i1, ev_i2, ev_l0, ev_l1, ev_l2, dats, List.zip_cons_cons, List.zip_nil_right, List.zip_nil_left, List.reverse_singleton, List.reverse_cons, List.reverse_nil, wYes, List.getElem?_cons_zero, List.getElem?_cons_succ, List.set_cons_zero, List.set_cons_succ, List.map_cons, List.map_nil, List.cons_append, List.nil_append, List.append_nil, List.replicate, List.length_cons, List.length_nil, Nat.reduceAdd, Nat.reduceSub, Option.some.injEq, List.append_eq, Nat.zero_add, exists_eq', exists_eq_left', Sl.mu.injEq, Mu.l.injEq, Sl.sh.injEq, W.p.injEq, true_and, and_true, or_true, true_or, ite_true, ite_false, if_true, if_false, Bool.false_eq_true, decide_eq_true_eq]
      refine r_alike (state_plain _ _).1 (Nat.le_trans (state_plain _ _).2 (by decide)) ?_
      simp only [wSeq2, wNext, wRet, wDrop, wIfS, wSet, wSetO, wSetN, wSetC, wSetIx, wSetI, wSetBx, wSetB, wAug, wApp, wAsg, wPar, wNilO, wConsO, wConsN, wL2N, putR, noUn, wVar, wC, wNil, wCons, wTup, wLst, wFz, wOp, wB, wAnd, wOr, wNot, wAndV, wOrV, wNotV, wIf, wNeg, wCB, wCL, wCallD, wRetB, wIsi, wSl, wNoPart, wPart, wRev, wFrz, wLend, wLendT, wLendL, muW, wFor, wSeq, wRange1, wRange2, wLc, wipeR, wgName, wgTup, wgLst, wgCons, wgNil, startR, wJoin, wZip, wEnum, wEnumA, wDisp1, wDGet2, wBrk, wCnt, wIxOx, wIxO, wPopSet, wPopAt, wPopAtSet, popAtW, wExt, wSet2, xE, xT, xA, xCons, xTup, xLst, xFz, xOp, xB, xNot, xAnd, xOr, xSl, xCB, xCallD, xCallX, xCallL, xRet, xDrop, xIfS, xSet, xAsg, wRaise, wTry, wHandle, outPs, wXf, wXis, wChain, wCat, wLm, gCnt, ev_addI, ev_addS, ev_addT, ev_addL, ev_mulI, ev_I, ev_I0, ev_ltI, ev_ltS, ev_ge, ev_eqI, ev_eqS, ev_eqB, ev_p0, ev_p1, ev_p2, ev_lenL, ev_lenT, ev_lenS, ev_lenQ, ev_lenK, ev_tupL, ev_tupT, ev_lisL, ev_lisT, ev_intI, ev_intB, ev_max2, ev_min2, ev_repr, ev_reprB, ev_reprT, ev_eqRp, ev_slL, ev_slT, ev_slS, ev_seqL, ev_seqT, ev_seqS, ev_inL, ev_inT, ev_isB, ev_dO, ev_dat0, ev_dat1, ev_dat2, ev_dat3, ev_dat4, ev_dat5, ev_dat8, ev_i0, ev_i1, ev_i2, ev_l0, ev_l1, ev_l2, dats, List.zip_cons_cons, List.zip_nil_right, List.zip_nil_left, List.reverse_singleton, List.reverse_cons, List.reverse_nil, wYes, List.getElem?_cons_zero, List.getElem?_cons_succ, List.set_cons_zero, List.set_cons_succ, List.map_cons, List.map_nil, List.cons_append, List.nil_append, List.append_nil, List.replicate, List.length_cons, List.length_nil, Nat.reduceAdd, Nat.reduceSub, Option.some.injEq, List.append_eq, Nat.zero_add, exists_eq', exists_eq_left', Sl.mu.injEq, Mu.l.injEq, Sl.sh.injEq, W.p.injEq, true_and, and_true, or_true, true_or, ite_true, ite_false, if_true, if_false, Bool.false_eq_true, decide_eq_true_eq, Bool.not_true]
      exact fin
    · exact fin
  · exact fin
theorem m_law (ws : List W) (Φ : W → Prop) (h : FLaw 63 ws Φ) : w_law F_law_box F_law_take F_law_hall F_law_state F_law_due F_law_told (F_law_alike 8) FV F_law_glued F_glue_state (startR n_law ws) ⟨fun _ => Φ (.d .none), Φ, fun _ => False, fun _ => False, fun _ _ => False⟩ := by
  obtain ⟨s, ns, rfl, hns, q⟩ := h
  simp only [w_law, n_law, wSeq2, wNext, wRet, wDrop, wIfS, wSet, wSetO, wSetN, wSetC, wSetIx, wSetI, wSetBx, wSetB, wAug, wApp, wAsg, wPar, wNilO, wConsO, wConsN, wL2N, putR, noUn, wVar, wC, wNil, wCons, wTup, wLst, wFz, wOp, wB, wAnd, wOr, wNot, wAndV, wOrV, wNotV, wIf, wNeg, wCB, wCL, wCallD, wRetB, wIsi, wSl, wNoPart, wPart, wRev, wFrz, wLend, wLendT, wLendL, muW, wFor, wSeq, wRange1, wRange2, wLc, wipeR, wgName, wgTup, wgLst, wgCons, wgNil, startR, wJoin, wZip, wEnum, wEnumA, wDisp1, wDGet2, wBrk, wCnt, wIxOx, wIxO, wPopSet, wPopAt, wPopAtSet, popAtW, wExt, wSet2, xE, xT, xA, xCons, xTup, xLst, xFz, xOp, xB, xNot, xAnd, xOr, xSl, xCB, xCallD, xCallX, xCallL, xRet, xDrop, xIfS, xSet, xAsg, wRaise, wTry, wHandle, outPs, wXf, wXis, wChain, wCat, wLm, gCnt, ev_addI, ev_addS, ev_addT, ev_addL, ev_mulI, ev_I, ev_I0, ev_ltI, ev_ltS, ev_ge, ev_eqI, ev_eqS, ev_eqB, ev_p0, ev_p1, ev_p2, ev_lenL, ev_lenT, ev_lenS, ev_lenQ, ev_lenK, ev_tupL, ev_tupT, ev_lisL, ev_lisT, ev_intI, ev_intB, ev_max2, ev_min2, ev_repr, ev_reprB, ev_reprT, ev_eqRp, ev_slL, ev_slT, ev_slS, ev_seqL, ev_seqT, ev_seqS, ev_inL, ev_inT, ev_isB, ev_dO, ev_dat0, ev_dat1, ev_dat2, ev_dat3, ev_dat4, ev_dat5, ev_dat8, ev_i0, ev_i1, ev_i2, ev_l0, ev_l1, ev_l2, dats, List.zip_cons_cons, List.zip_nil_right, List.zip_nil_left, List.reverse_singleton, List.reverse_cons, List.reverse_nil, wYes, List.getElem?_cons_zero, List.getElem?_cons_succ, List.set_cons_zero, List.set_cons_succ, List.map_cons, List.map_nil, List.cons_append, List.nil_append, List.append_nil, List.replicate, List.length_cons, List.length_nil, Nat.reduceAdd, Nat.reduceSub, Option.some.injEq, List.append_eq, Nat.zero_add, exists_eq', exists_eq_left', Sl.mu.injEq, Mu.l.injEq, Sl.sh.injEq, W.p.injEq, true_and, and_true, or_true, true_or, ite_true, ite_false, if_true, if_false, Bool.false_eq_true, decide_eq_true_eq]
  refine ⟨⟨by split <;> split <;> omega, by split <;> split <;> omega⟩, ?_⟩
  refine forW_inv (fun m ρ' => ∃ s1 s2 s3 s4 s5 s6 s7 s8 s9 s10 s11 s12 s13 s14, ρ' = [.sh (.sq s ns), s1, s2, s3, s4, s5, s6, s7, s8, s9, s10, s11, s12, s13, s14]) 0 ⟨_, _, _, _, _, _, _, _, _, _, _, _, _, _, rfl⟩ (fun i e ρ' C he hI hC => ?_) fun ρ' hI => ?_
  · obtain ⟨s1, s2, s3, s4, s5, s6, s7, s8, s9, s10, s11, s12, s13, s14, rfl⟩ := hI
    obtain ⟨hi, rfl⟩ := intsFrom_get he
    have hi6 : i < 6 := by
      split at hi <;> split at hi <;> omega
    try simp only [wSeq2, wNext, wRet, wDrop, wIfS, wSet, wSetO, wSetN, wSetC, wSetIx, wSetI, wSetBx, wSetB, wAug, wApp, wAsg, wPar, wNilO, wConsO, wConsN, wL2N, putR, noUn, wVar, wC, wNil, wCons, wTup, wLst, wFz, wOp, wB, wAnd, wOr, wNot, wAndV, wOrV, wNotV, wIf, wNeg, wCB, wCL, wCallD, wRetB, wIsi, wSl, wNoPart, wPart, wRev, wFrz, wLend, wLendT, wLendL, muW, wFor, wSeq, wRange1, wRange2, wLc, wipeR, wgName, wgTup, wgLst, wgCons, wgNil, startR, wJoin, wZip, wEnum, wEnumA, wDisp1, wDGet2, wBrk, wCnt, wIxOx, wIxO, wPopSet, wPopAt, wPopAtSet, popAtW, wExt, wSet2, xE, xT, xA, xCons, xTup, xLst, xFz, xOp, xB, xNot, xAnd, xOr, xSl, xCB, xCallD, xCallX, xCallL, xRet, xDrop, xIfS, xSet, xAsg, wRaise, wTry, wHandle, outPs, wXf, wXis, wChain, wCat, wLm, gCnt, ev_addI, ev_addS, ev_addT, ev_addL, ev_mulI, ev_I, ev_I0, ev_ltI, ev_ltS, ev_ge, ev_eqI, ev_eqS, ev_eqB, ev_p0, ev_p1, ev_p2, ev_lenL, ev_lenT, ev_lenS, ev_lenQ, ev_lenK, ev_tupL, ev_tupT, ev_lisL, ev_lisT, ev_intI, ev_intB, ev_max2, ev_min2, ev_repr, ev_reprB, ev_reprT, ev_eqRp, ev_slL, ev_slT, ev_slS, ev_seqL, ev_seqT, ev_seqS, ev_inL, ev_inT, ev_isB, ev_dO, ev_dat0, ev_dat1, ev_dat2, ev_dat3, ev_dat4, ev_dat5, ev_dat8, ev_i0, ev_i1, ev_i2, ev_l0, ev_l1, ev_l2, dats, List.zip_cons_cons, List.zip_nil_right, List.zip_nil_left, List.reverse_singleton, List.reverse_cons, List.reverse_nil, wYes, List.getElem?_cons_zero, List.getElem?_cons_succ, List.set_cons_zero, List.set_cons_succ, List.map_cons, List.map_nil, List.cons_append, List.nil_append, List.append_nil, List.replicate, List.length_cons, List.length_nil, Nat.reduceAdd, Nat.reduceSub, Option.some.injEq, List.append_eq, Nat.zero_add, exists_eq', exists_eq_left', Sl.mu.injEq, Mu.l.injEq, Sl.sh.injEq, W.p.injEq, true_and, and_true, or_true, true_or, ite_true, ite_false, if_true, if_false, Bool.false_eq_true, decide_eq_true_eq]
    refine r_box (by omega) (by omega) fun a => ?_
    try simp only [wSeq2, wNext, wRet, wDrop, wIfS, wSet, wSetO, wSetN, wSetC, wSetIx, wSetI, wSetBx, wSetB, wAug, wApp, wAsg, wPar, wNilO, wConsO, wConsN, wL2N, putR, noUn, wVar, wC, wNil, wCons, wTup, wLst, wFz, wOp, wB, wAnd, wOr, wNot, wAndV, wOrV, wNotV, wIf, wNeg, wCB, wCL, wCallD, wRetB, wIsi, wSl, wNoPart, wPart, wRev, wFrz, wLend, wLendT, wLendL, muW, wFor, wSeq, wRange1, wRange2, wLc, wipeR, wgName, wgTup, wgLst, wgCons, wgNil, startR, wJoin, wZip, wEnum, wEnumA, wDisp1, wDGet2, wBrk, wCnt, wIxOx, wIxO, wPopSet, wPopAt, wPopAtSet, popAtW, wExt, wSet2, xE, xT, xA, xCons, xTup, xLst, xFz, xOp, xB, xNot, xAnd, xOr, xSl, xCB, xCallD, xCallX, xCallL, xRet, xDrop, xIfS, xSet, xAsg, wRaise, wTry, wHandle, outPs, wXf, wXis, wChain, wCat, wLm, gCnt, ev_addI, ev_addS, ev_addT, ev_addL, ev_mulI, ev_I, ev_I0, ev_ltI, ev_ltS, ev_ge, ev_eqI, ev_eqS, ev_eqB, ev_p0, ev_p1, ev_p2, ev_lenL, ev_lenT, ev_lenS, ev_lenQ, ev_lenK, ev_tupL, ev_tupT, ev_lisL, ev_lisT, ev_intI, ev_intB, ev_max2, ev_min2, ev_repr, ev_reprB, ev_reprT, ev_eqRp, ev_slL, ev_slT, ev_slS, ev_seqL, ev_seqT, ev_seqS, ev_inL, ev_inT, ev_isB, ev_dO, ev_dat0, ev_dat1, ev_dat2, ev_dat3, ev_dat4, ev_dat5, ev_dat8, ev_i0, ev_i1, ev_i2, ev_l0, ev_l1, ev_l2, dats, List.zip_cons_cons, List.zip_nil_right, List.zip_nil_left, List.reverse_singleton, List.reverse_cons, List.reverse_nil, wYes, List.getElem?_cons_zero, List.getElem?_cons_succ, List.set_cons_zero, List.set_cons_succ, List.map_cons, List.map_nil, List.cons_append, List.nil_append, List.append_nil, List.replicate, List.length_cons, List.length_nil, Nat.reduceAdd, Nat.reduceSub, Option.some.injEq, List.append_eq, Nat.zero_add, exists_eq', exists_eq_left', Sl.mu.injEq, Mu.l.injEq, Sl.sh.injEq, W.p.injEq, true_and, and_true, or_true, true_or, ite_true, ite_false, if_true, if_false, Bool.false_eq_true, decide_eq_true_eq]
    refine r_take (by decide) (by decide) fun z hz0 hz1 => ?_
    try simp only [wSeq2, wNext, wRet, wDrop, wIfS, wSet, wSetO, wSetN, wSetC, wSetIx, wSetI, wSetBx, wSetB, wAug, wApp, wAsg, wPar, wNilO, wConsO, wConsN, wL2N, putR, noUn, wVar, wC, wNil, wCons, wTup, wLst, wFz, wOp, wB, wAnd, wOr, wNot, wAndV, wOrV, wNotV, wIf, wNeg, wCB, wCL, wCallD, wRetB, wIsi, wSl, wNoPart, wPart, wRev, wFrz, wLend, wLendT, wLendL, muW, wFor, wSeq, wRange1, wRange2, wLc, wipeR, wgName, wgTup, wgLst, wgCons, wgNil, startR, wJoin, wZip, wEnum, wEnumA, wDisp1, wDGet2, wBrk, wCnt, wIxOx, wIxO, wPopSet, wPopAt, wPopAtSet, popAtW, wExt, wSet2, xE, xT, xA, xCons, xTup, xLst, xFz, xOp, xB, xNot, xAnd, xOr, xSl, xCB, xCallD, xCallX, xCallL, xRet, xDrop, xIfS, xSet, xAsg, wRaise, wTry, wHandle, outPs, wXf, wXis, wChain, wCat, wLm, gCnt, ev_addI, ev_addS, ev_addT, ev_addL, ev_mulI, ev_I, ev_I0, ev_ltI, ev_ltS, ev_ge, ev_eqI, ev_eqS, ev_eqB, ev_p0, ev_p1, ev_p2, ev_lenL, ev_lenT, ev_lenS, ev_lenQ, ev_lenK, ev_tupL, ev_tupT, ev_lisL, ev_lisT, ev_intI, ev_intB, ev_max2, ev_min2, ev_repr, ev_reprB, ev_reprT, ev_eqRp, ev_slL, ev_slT, ev_slS, ev_seqL, ev_seqT, ev_seqS, ev_inL, ev_inT, ev_isB, ev_dO, ev_dat0, ev_dat1, ev_dat2, ev_dat3, ev_dat4, ev_dat5, ev_dat8, ev_i0, ev_i1, ev_i2, ev_l0, ev_l1, ev_l2, dats, List.zip_cons_cons, List.zip_nil_right, List.zip_nil_left, List.reverse_singleton, List.reverse_cons, List.reverse_nil, wYes, List.getElem?_cons_zero, List.getElem?_cons_succ, List.set_cons_zero, List.set_cons_succ, List.map_cons, List.map_nil, List.cons_append, List.nil_append, List.append_nil, List.replicate, List.length_cons, List.length_nil, Nat.reduceAdd, Nat.reduceSub, Option.some.injEq, List.append_eq, Nat.zero_add, exists_eq', exists_eq_left', Sl.mu.injEq, Mu.l.injEq, Sl.sh.injEq, W.p.injEq, true_and, and_true, or_true, true_or, ite_true, ite_false, if_true, if_false, Bool.false_eq_true, decide_eq_true_eq]
    refine r_ixl hz0 (by simpa using hz1) fun d hd => ?_
    obtain ⟨Dn, rfl, hD12⟩ : ∃ Dn : Nat, d = .int (Dn : Int) ∧ Dn ≤ 12 := by
      have := List.mem_of_getElem? hd
      simp only [List.mem_cons, List.not_mem_nil, or_false] at this
      rcases this with rfl | rfl
      · exact ⟨12, rfl, by decide⟩
      · exact ⟨4, rfl, by decide⟩
    refine r_hall (R := 8) (Dn := Dn) rfl rfl (by decide) (by decide) (by omega) fun names doors ok => ?_
    try simp only [wSeq2, wNext, wRet, wDrop, wIfS, wSet, wSetO, wSetN, wSetC, wSetIx, wSetI, wSetBx, wSetB, wAug, wApp, wAsg, wPar, wNilO, wConsO, wConsN, wL2N, putR, noUn, wVar, wC, wNil, wCons, wTup, wLst, wFz, wOp, wB, wAnd, wOr, wNot, wAndV, wOrV, wNotV, wIf, wNeg, wCB, wCL, wCallD, wRetB, wIsi, wSl, wNoPart, wPart, wRev, wFrz, wLend, wLendT, wLendL, muW, wFor, wSeq, wRange1, wRange2, wLc, wipeR, wgName, wgTup, wgLst, wgCons, wgNil, startR, wJoin, wZip, wEnum, wEnumA, wDisp1, wDGet2, wBrk, wCnt, wIxOx, wIxO, wPopSet, wPopAt, wPopAtSet, popAtW, wExt, wSet2, xE, xT, xA, xCons, xTup, xLst, xFz, xOp, xB, xNot, xAnd, xOr, xSl, xCB, xCallD, xCallX, xCallL, xRet, xDrop, xIfS, xSet, xAsg, wRaise, wTry, wHandle, outPs, wXf, wXis, wChain, wCat, wLm, gCnt, ev_addI, ev_addS, ev_addT, ev_addL, ev_mulI, ev_I, ev_I0, ev_ltI, ev_ltS, ev_ge, ev_eqI, ev_eqS, ev_eqB, ev_p0, ev_p1, ev_p2, ev_lenL, ev_lenT, ev_lenS, ev_lenQ, ev_lenK, ev_tupL, ev_tupT, ev_lisL, ev_lisT, ev_intI, ev_intB, ev_max2, ev_min2, ev_repr, ev_reprB, ev_reprT, ev_eqRp, ev_slL, ev_slT, ev_slS, ev_seqL, ev_seqT, ev_seqS, ev_inL, ev_inT, ev_isB, ev_dO, ev_dat0, ev_dat1, ev_dat2, ev_dat3, ev_dat4, ev_dat5, ev_dat8, ev_i0, ev_i1, ev_i2, ev_l0, ev_l1, ev_l2, dats, List.zip_cons_cons, List.zip_nil_right, List.zip_nil_left, List.reverse_singleton, List.reverse_cons, List.reverse_nil, wYes, List.getElem?_cons_zero, List.getElem?_cons_succ, List.set_cons_zero, List.set_cons_succ, List.map_cons, List.map_nil, List.cons_append, List.nil_append, List.append_nil, List.replicate, List.length_cons, List.length_nil, Nat.reduceAdd, Nat.reduceSub, Option.some.injEq, List.append_eq, Nat.zero_add, exists_eq', exists_eq_left', Sl.mu.injEq, Mu.l.injEq, Sl.sh.injEq, W.p.injEq, true_and, and_true, or_true, true_or, ite_true, ite_false, if_true, if_false, Bool.false_eq_true, decide_eq_true_eq]
    refine ⟨a, names, doors, 5, rfl, ok.up (by decide) (by omega), by decide, fun faces places so => ?_⟩
    try simp only [wSeq2, wNext, wRet, wDrop, wIfS, wSet, wSetO, wSetN, wSetC, wSetIx, wSetI, wSetBx, wSetB, wAug, wApp, wAsg, wPar, wNilO, wConsO, wConsN, wL2N, putR, noUn, wVar, wC, wNil, wCons, wTup, wLst, wFz, wOp, wB, wAnd, wOr, wNot, wAndV, wOrV, wNotV, wIf, wNeg, wCB, wCL, wCallD, wRetB, wIsi, wSl, wNoPart, wPart, wRev, wFrz, wLend, wLendT, wLendL, muW, wFor, wSeq, wRange1, wRange2, wLc, wipeR, wgName, wgTup, wgLst, wgCons, wgNil, startR, wJoin, wZip, wEnum, wEnumA, wDisp1, wDGet2, wBrk, wCnt, wIxOx, wIxO, wPopSet, wPopAt, wPopAtSet, popAtW, wExt, wSet2, xE, xT, xA, xCons, xTup, xLst, xFz, xOp, xB, xNot, xAnd, xOr, xSl, xCB, xCallD, xCallX, xCallL, xRet, xDrop, xIfS, xSet, xAsg, wRaise, wTry, wHandle, outPs, wXf, wXis, wChain, wCat, wLm, gCnt, ev_addI, ev_addS, ev_addT, ev_addL, ev_mulI, ev_I, ev_I0, ev_ltI, ev_ltS, ev_ge, ev_eqI, ev_eqS, ev_eqB, ev_p0, ev_p1, ev_p2, ev_lenL, ev_lenT, ev_lenS, ev_lenQ, ev_lenK, ev_tupL, ev_tupT, ev_lisL, ev_lisT, ev_intI, ev_intB, ev_max2, ev_min2, ev_repr, ev_reprB, ev_reprT, ev_eqRp, ev_slL, ev_slT, ev_slS, ev_seqL, ev_seqT, ev_seqS, ev_inL, ev_inT, ev_isB, ev_dO, ev_dat0, ev_dat1, ev_dat2, ev_dat3, ev_dat4, ev_dat5, ev_dat8, ev_i0, ev_i1, ev_i2, ev_l0, ev_l1, ev_l2, dats, List.zip_cons_cons, List.zip_nil_right, List.zip_nil_left, List.reverse_singleton, List.reverse_cons, List.reverse_nil, wYes, List.getElem?_cons_zero, List.getElem?_cons_succ, List.set_cons_zero, List.set_cons_succ, List.map_cons, List.map_nil, List.cons_append, List.nil_append, List.append_nil, List.replicate, List.length_cons, List.length_nil, Nat.reduceAdd, Nat.reduceSub, Option.some.injEq, List.append_eq, Nat.zero_add, exists_eq', exists_eq_left', Sl.mu.injEq, Mu.l.injEq, Sl.sh.injEq, W.p.injEq, true_and, and_true, or_true, true_or, ite_true, ite_false, if_true, if_false, Bool.false_eq_true, decide_eq_true_eq]
    have ei0 : ∀ {Ψ : W → Prop}, oIx (.d (hallD names doors)) (.d (.int 0)) Ψ = Ψ (.d (.tuple (names.map PyData.str))) := ev_i0
    have ei1 : ∀ {Ψ : W → Prop}, oIx (.d (hallD names doors)) (.d (.int 1)) Ψ = Ψ (.d (.tuple (doors.map doorD))) := ev_i1
    have es1 : ∀ {Ψ : W → Prop}, oIx (.d (stateD faces places)) (.d (.int 1)) Ψ = Ψ (.d (.tuple (places.map placeD))) := ev_i1
    simp only [ei0, wSeq2, wNext, wRet, wDrop, wIfS, wSet, wSetO, wSetN, wSetC, wSetIx, wSetI, wSetBx, wSetB, wAug, wApp, wAsg, wPar, wNilO, wConsO, wConsN, wL2N, putR, noUn, wVar, wC, wNil, wCons, wTup, wLst, wFz, wOp, wB, wAnd, wOr, wNot, wAndV, wOrV, wNotV, wIf, wNeg, wCB, wCL, wCallD, wRetB, wIsi, wSl, wNoPart, wPart, wRev, wFrz, wLend, wLendT, wLendL, muW, wFor, wSeq, wRange1, wRange2, wLc, wipeR, wgName, wgTup, wgLst, wgCons, wgNil, startR, wJoin, wZip, wEnum, wEnumA, wDisp1, wDGet2, wBrk, wCnt, wIxOx, wIxO, wPopSet, wPopAt, wPopAtSet, popAtW, wExt, wSet2, xE, xT, xA, xCons, xTup, xLst, xFz, xOp, xB, xNot, xAnd, xOr, xSl, xCB, xCallD, xCallX, xCallL, xRet, xDrop, xIfS, xSet, xAsg, wRaise, wTry, wHandle, outPs, wXf, wXis, wChain, wCat, wLm, gCnt, ev_addI, ev_addS, ev_addT, ev_addL, ev_mulI, ev_I, ev_I0, ev_ltI, ev_ltS, ev_ge, ev_eqI, ev_eqS, ev_eqB, ev_p0, ev_p1, ev_p2, ev_lenL, ev_lenT, ev_lenS, ev_lenQ, ev_lenK, ev_tupL, ev_tupT, ev_lisL, ev_lisT, ev_intI, ev_intB, ev_max2, ev_min2, ev_repr, ev_reprB, ev_reprT, ev_eqRp, ev_slL, ev_slT, ev_slS, ev_seqL, ev_seqT, ev_seqS, ev_inL, ev_inT, ev_isB, ev_dO, ev_dat0, ev_dat1, ev_dat2, ev_dat3, ev_dat4, ev_dat5, ev_dat8, ev_i0, ev_i1, ev_i2, ev_l0, ev_l1, ev_l2, dats, List.zip_cons_cons, List.zip_nil_right, List.zip_nil_left, List.reverse_singleton, List.reverse_cons, List.reverse_nil, wYes, List.getElem?_cons_zero, List.getElem?_cons_succ, List.set_cons_zero, List.set_cons_succ, List.map_cons, List.map_nil, List.cons_append, List.nil_append, List.append_nil, List.replicate, List.length_cons, List.length_nil, Nat.reduceAdd, Nat.reduceSub, Option.some.injEq, List.append_eq, Nat.zero_add, exists_eq', exists_eq_left', Sl.mu.injEq, Mu.l.injEq, Sl.sh.injEq, W.p.injEq, true_and, and_true, or_true, true_or, ite_true, ite_false, if_true, if_false, Bool.false_eq_true, decide_eq_true_eq]
    have hl1 := ok.len
    have hl2 := ok.dlen
    have hp := ok.pos
    have hl3 := so.pl
    refine ⟨by omega, ?_⟩
    refine forW_inv (fun m ρ' => ∃ s6 s7 s8 s9 s10 s11 s12 s13 s14, ρ' = [.sh (.sq s ns), .sh (.d (.int (0 + i))), .sh (.p a), .sh (.d (hallD names doors)), .sh (.d (stateD faces places)), .sh (.d (.list (names.map PyData.str))), s6, s7, s8, s9, s10, s11, s12, s13, s14]) 0 ⟨_, _, _, _, _, _, _, _, _, rfl⟩ (fun j e ρ' C' he' hI hC' => ?_) fun ρ' hI => ?_
    · obtain ⟨s6, s7, s8, s9, s10, s11, s12, s13, s14, rfl⟩ := hI
      simp only [ei1, es1, wSeq2, wNext, wRet, wDrop, wIfS, wSet, wSetO, wSetN, wSetC, wSetIx, wSetI, wSetBx, wSetB, wAug, wApp, wAsg, wPar, wNilO, wConsO, wConsN, wL2N, putR, noUn, wVar, wC, wNil, wCons, wTup, wLst, wFz, wOp, wB, wAnd, wOr, wNot, wAndV, wOrV, wNotV, wIf, wNeg, wCB, wCL, wCallD, wRetB, wIsi, wSl, wNoPart, wPart, wRev, wFrz, wLend, wLendT, wLendL, muW, wFor, wSeq, wRange1, wRange2, wLc, wipeR, wgName, wgTup, wgLst, wgCons, wgNil, startR, wJoin, wZip, wEnum, wEnumA, wDisp1, wDGet2, wBrk, wCnt, wIxOx, wIxO, wPopSet, wPopAt, wPopAtSet, popAtW, wExt, wSet2, xE, xT, xA, xCons, xTup, xLst, xFz, xOp, xB, xNot, xAnd, xOr, xSl, xCB, xCallD, xCallX, xCallL, xRet, xDrop, xIfS, xSet, xAsg, wRaise, wTry, wHandle, outPs, wXf, wXis, wChain, wCat, wLm, gCnt, ev_addI, ev_addS, ev_addT, ev_addL, ev_mulI, ev_I, ev_I0, ev_ltI, ev_ltS, ev_ge, ev_eqI, ev_eqS, ev_eqB, ev_p0, ev_p1, ev_p2, ev_lenL, ev_lenT, ev_lenS, ev_lenQ, ev_lenK, ev_tupL, ev_tupT, ev_lisL, ev_lisT, ev_intI, ev_intB, ev_max2, ev_min2, ev_repr, ev_reprB, ev_reprT, ev_eqRp, ev_slL, ev_slT, ev_slS, ev_seqL, ev_seqT, ev_seqS, ev_inL, ev_inT, ev_isB, ev_dO, ev_dat0, ev_dat1, ev_dat2, ev_dat3, ev_dat4, ev_dat5, ev_dat8, ev_i0, ev_i1, ev_i2, ev_l0, ev_l1, ev_l2, dats, List.zip_cons_cons, List.zip_nil_right, List.zip_nil_left, List.reverse_singleton, List.reverse_cons, List.reverse_nil, wYes, List.getElem?_cons_zero, List.getElem?_cons_succ, List.set_cons_zero, List.set_cons_succ, List.map_cons, List.map_nil, List.cons_append, List.nil_append, List.append_nil, List.replicate, List.length_cons, List.length_nil, Nat.reduceAdd, Nat.reduceSub, Option.some.injEq, List.append_eq, Nat.zero_add, exists_eq', exists_eq_left', Sl.mu.injEq, Mu.l.injEq, Sl.sh.injEq, W.p.injEq, true_and, and_true, or_true, true_or, ite_true, ite_false, if_true, if_false, Bool.false_eq_true, decide_eq_true_eq]
      refine ⟨small_line (by rw [List.length_map]; omega), small_line (by rw [List.length_append, List.length_map]; omega), ?_⟩
      refine compW_mp (g := fun p : Door => PyData.str p.1) doors (fun p _ acc C c => ?_) ?_
      · simp only [doorD, wSeq2, wNext, wRet, wDrop, wIfS, wSet, wSetO, wSetN, wSetC, wSetIx, wSetI, wSetBx, wSetB, wAug, wApp, wAsg, wPar, wNilO, wConsO, wConsN, wL2N, putR, noUn, wVar, wC, wNil, wCons, wTup, wLst, wFz, wOp, wB, wAnd, wOr, wNot, wAndV, wOrV, wNotV, wIf, wNeg, wCB, wCL, wCallD, wRetB, wIsi, wSl, wNoPart, wPart, wRev, wFrz, wLend, wLendT, wLendL, muW, wFor, wSeq, wRange1, wRange2, wLc, wipeR, wgName, wgTup, wgLst, wgCons, wgNil, startR, wJoin, wZip, wEnum, wEnumA, wDisp1, wDGet2, wBrk, wCnt, wIxOx, wIxO, wPopSet, wPopAt, wPopAtSet, popAtW, wExt, wSet2, xE, xT, xA, xCons, xTup, xLst, xFz, xOp, xB, xNot, xAnd, xOr, xSl, xCB, xCallD, xCallX, xCallL, xRet, xDrop, xIfS, xSet, xAsg, wRaise, wTry, wHandle, outPs, wXf, wXis, wChain, wCat, wLm, gCnt, ev_addI, ev_addS, ev_addT, ev_addL, ev_mulI, ev_I, ev_I0, ev_ltI, ev_ltS, ev_ge, ev_eqI, ev_eqS, ev_eqB, ev_p0, ev_p1, ev_p2, ev_lenL, ev_lenT, ev_lenS, ev_lenQ, ev_lenK, ev_tupL, ev_tupT, ev_lisL, ev_lisT, ev_intI, ev_intB, ev_max2, ev_min2, ev_repr, ev_reprB, ev_reprT, ev_eqRp, ev_slL, ev_slT, ev_slS, ev_seqL, ev_seqT, ev_seqS, ev_inL, ev_inT, ev_isB, ev_dO, ev_dat0, ev_dat1, ev_dat2, ev_dat3, ev_dat4, ev_dat5, ev_dat8, ev_i0, ev_i1, ev_i2, ev_l0, ev_l1, ev_l2, dats, List.zip_cons_cons, List.zip_nil_right, List.zip_nil_left, List.reverse_singleton, List.reverse_cons, List.reverse_nil, wYes, List.getElem?_cons_zero, List.getElem?_cons_succ, List.set_cons_zero, List.set_cons_succ, List.map_cons, List.map_nil, List.cons_append, List.nil_append, List.append_nil, List.replicate, List.length_cons, List.length_nil, Nat.reduceAdd, Nat.reduceSub, Option.some.injEq, List.append_eq, Nat.zero_add, exists_eq', exists_eq_left', Sl.mu.injEq, Mu.l.injEq, Sl.sh.injEq, W.p.injEq, true_and, and_true, or_true, true_or, ite_true, ite_false, if_true, if_false, Bool.false_eq_true, decide_eq_true_eq]
        exact c
      refine ⟨small_line (by simp; omega), ?_⟩
      try simp only [es1, wSeq2, wNext, wRet, wDrop, wIfS, wSet, wSetO, wSetN, wSetC, wSetIx, wSetI, wSetBx, wSetB, wAug, wApp, wAsg, wPar, wNilO, wConsO, wConsN, wL2N, putR, noUn, wVar, wC, wNil, wCons, wTup, wLst, wFz, wOp, wB, wAnd, wOr, wNot, wAndV, wOrV, wNotV, wIf, wNeg, wCB, wCL, wCallD, wRetB, wIsi, wSl, wNoPart, wPart, wRev, wFrz, wLend, wLendT, wLendL, muW, wFor, wSeq, wRange1, wRange2, wLc, wipeR, wgName, wgTup, wgLst, wgCons, wgNil, startR, wJoin, wZip, wEnum, wEnumA, wDisp1, wDGet2, wBrk, wCnt, wIxOx, wIxO, wPopSet, wPopAt, wPopAtSet, popAtW, wExt, wSet2, xE, xT, xA, xCons, xTup, xLst, xFz, xOp, xB, xNot, xAnd, xOr, xSl, xCB, xCallD, xCallX, xCallL, xRet, xDrop, xIfS, xSet, xAsg, wRaise, wTry, wHandle, outPs, wXf, wXis, wChain, wCat, wLm, gCnt, ev_addI, ev_addS, ev_addT, ev_addL, ev_mulI, ev_I, ev_I0, ev_ltI, ev_ltS, ev_ge, ev_eqI, ev_eqS, ev_eqB, ev_p0, ev_p1, ev_p2, ev_lenL, ev_lenT, ev_lenS, ev_lenQ, ev_lenK, ev_tupL, ev_tupT, ev_lisL, ev_lisT, ev_intI, ev_intB, ev_max2, ev_min2, ev_repr, ev_reprB, ev_reprT, ev_eqRp, ev_slL, ev_slT, ev_slS, ev_seqL, ev_seqT, ev_seqS, ev_inL, ev_inT, ev_isB, ev_dO, ev_dat0, ev_dat1, ev_dat2, ev_dat3, ev_dat4, ev_dat5, ev_dat8, ev_i0, ev_i1, ev_i2, ev_l0, ev_l1, ev_l2, dats, List.zip_cons_cons, List.zip_nil_right, List.zip_nil_left, List.reverse_singleton, List.reverse_cons, List.reverse_nil, wYes, List.getElem?_cons_zero, List.getElem?_cons_succ, List.set_cons_zero, List.set_cons_succ, List.map_cons, List.map_nil, List.cons_append, List.nil_append, List.append_nil, List.replicate, List.length_cons, List.length_nil, Nat.reduceAdd, Nat.reduceSub, Option.some.injEq, List.append_eq, Nat.zero_add, exists_eq', exists_eq_left', Sl.mu.injEq, Mu.l.injEq, Sl.sh.injEq, W.p.injEq, true_and, and_true, or_true, true_or, ite_true, ite_false, if_true, if_false, Bool.false_eq_true, decide_eq_true_eq]
      refine compW_mp (g := fun p : Str × Str => PyData.str p.1) places (fun p _ acc C c => ?_) ?_
      · simp only [placeD, wSeq2, wNext, wRet, wDrop, wIfS, wSet, wSetO, wSetN, wSetC, wSetIx, wSetI, wSetBx, wSetB, wAug, wApp, wAsg, wPar, wNilO, wConsO, wConsN, wL2N, putR, noUn, wVar, wC, wNil, wCons, wTup, wLst, wFz, wOp, wB, wAnd, wOr, wNot, wAndV, wOrV, wNotV, wIf, wNeg, wCB, wCL, wCallD, wRetB, wIsi, wSl, wNoPart, wPart, wRev, wFrz, wLend, wLendT, wLendL, muW, wFor, wSeq, wRange1, wRange2, wLc, wipeR, wgName, wgTup, wgLst, wgCons, wgNil, startR, wJoin, wZip, wEnum, wEnumA, wDisp1, wDGet2, wBrk, wCnt, wIxOx, wIxO, wPopSet, wPopAt, wPopAtSet, popAtW, wExt, wSet2, xE, xT, xA, xCons, xTup, xLst, xFz, xOp, xB, xNot, xAnd, xOr, xSl, xCB, xCallD, xCallX, xCallL, xRet, xDrop, xIfS, xSet, xAsg, wRaise, wTry, wHandle, outPs, wXf, wXis, wChain, wCat, wLm, gCnt, ev_addI, ev_addS, ev_addT, ev_addL, ev_mulI, ev_I, ev_I0, ev_ltI, ev_ltS, ev_ge, ev_eqI, ev_eqS, ev_eqB, ev_p0, ev_p1, ev_p2, ev_lenL, ev_lenT, ev_lenS, ev_lenQ, ev_lenK, ev_tupL, ev_tupT, ev_lisL, ev_lisT, ev_intI, ev_intB, ev_max2, ev_min2, ev_repr, ev_reprB, ev_reprT, ev_eqRp, ev_slL, ev_slT, ev_slS, ev_seqL, ev_seqT, ev_seqS, ev_inL, ev_inT, ev_isB, ev_dO, ev_dat0, ev_dat1, ev_dat2, ev_dat3, ev_dat4, ev_dat5, ev_dat8, ev_i0, ev_i1, ev_i2, ev_l0, ev_l1, ev_l2, dats, List.zip_cons_cons, List.zip_nil_right, List.zip_nil_left, List.reverse_singleton, List.reverse_cons, List.reverse_nil, wYes, List.getElem?_cons_zero, List.getElem?_cons_succ, List.set_cons_zero, List.set_cons_succ, List.map_cons, List.map_nil, List.cons_append, List.nil_append, List.append_nil, List.replicate, List.length_cons, List.length_nil, Nat.reduceAdd, Nat.reduceSub, Option.some.injEq, List.append_eq, Nat.zero_add, exists_eq', exists_eq_left', Sl.mu.injEq, Mu.l.injEq, Sl.sh.injEq, W.p.injEq, true_and, and_true, or_true, true_or, ite_true, ite_false, if_true, if_false, Bool.false_eq_true, decide_eq_true_eq]
        exact c
      refine ⟨small_line (by simp; omega), ?_⟩
      obtain ⟨some_, hsome, hsl, hsp⟩ : ∃ xs : List Str, names.map PyData.str ++ names.map PyData.str ++ [PyData.str (Str.ofString "zzzzzz"), PyData.str (Str.ofString "yyyyyy")] ++ doors.map (fun p : Door => PyData.str p.1) ++ places.map (fun p : Str × Str => PyData.str p.1) = xs.map PyData.str ∧ xs.length ≤ 100 ∧ 0 < xs.length :=
        ⟨names ++ names ++ [Str.ofString "zzzzzz", Str.ofString "yyyyyy"] ++ doors.map (·.1) ++ places.map (·.1), by simp only [List.map_append, List.map_map, List.map_cons, List.map_nil, List.append_assoc]; rfl, by simp; omega, by simp; omega⟩
      rw [hsome]
      refine ⟨by omega, compW_inv (fun n acc => ∃ xs : List Str, acc = xs.map PyData.str ∧ xs.length = n) 0 ⟨[], rfl, rfl⟩ (fun i d acc C hd hI hC => ?_) fun acc hI => ?_⟩
      · obtain ⟨xs, rfl, hl⟩ := hI
        simp only [wSeq2, wNext, wRet, wDrop, wIfS, wSet, wSetO, wSetN, wSetC, wSetIx, wSetI, wSetBx, wSetB, wAug, wApp, wAsg, wPar, wNilO, wConsO, wConsN, wL2N, putR, noUn, wVar, wC, wNil, wCons, wTup, wLst, wFz, wOp, wB, wAnd, wOr, wNot, wAndV, wOrV, wNotV, wIf, wNeg, wCB, wCL, wCallD, wRetB, wIsi, wSl, wNoPart, wPart, wRev, wFrz, wLend, wLendT, wLendL, muW, wFor, wSeq, wRange1, wRange2, wLc, wipeR, wgName, wgTup, wgLst, wgCons, wgNil, startR, wJoin, wZip, wEnum, wEnumA, wDisp1, wDGet2, wBrk, wCnt, wIxOx, wIxO, wPopSet, wPopAt, wPopAtSet, popAtW, wExt, wSet2, xE, xT, xA, xCons, xTup, xLst, xFz, xOp, xB, xNot, xAnd, xOr, xSl, xCB, xCallD, xCallX, xCallL, xRet, xDrop, xIfS, xSet, xAsg, wRaise, wTry, wHandle, outPs, wXf, wXis, wChain, wCat, wLm, gCnt, ev_addI, ev_addS, ev_addT, ev_addL, ev_mulI, ev_I, ev_I0, ev_ltI, ev_ltS, ev_ge, ev_eqI, ev_eqS, ev_eqB, ev_p0, ev_p1, ev_p2, ev_lenL, ev_lenT, ev_lenS, ev_lenQ, ev_lenK, ev_tupL, ev_tupT, ev_lisL, ev_lisT, ev_intI, ev_intB, ev_max2, ev_min2, ev_repr, ev_reprB, ev_reprT, ev_eqRp, ev_slL, ev_slT, ev_slS, ev_seqL, ev_seqT, ev_seqS, ev_inL, ev_inT, ev_isB, ev_dO, ev_dat0, ev_dat1, ev_dat2, ev_dat3, ev_dat4, ev_dat5, ev_dat8, ev_i0, ev_i1, ev_i2, ev_l0, ev_l1, ev_l2, dats, List.zip_cons_cons, List.zip_nil_right, List.zip_nil_left, List.reverse_singleton, List.reverse_cons, List.reverse_nil, wYes, List.getElem?_cons_zero, List.getElem?_cons_succ, List.set_cons_zero, List.set_cons_succ, List.map_cons, List.map_nil, List.cons_append, List.nil_append, List.append_nil, List.replicate, List.length_cons, List.length_nil, Nat.reduceAdd, Nat.reduceSub, Option.some.injEq, List.append_eq, Nat.zero_add, exists_eq', exists_eq_left', Sl.mu.injEq, Mu.l.injEq, Sl.sh.injEq, W.p.injEq, true_and, and_true, or_true, true_or, ite_true, ite_false, if_true, if_false, Bool.false_eq_true, decide_eq_true_eq, List.length_map]
        refine r_take (by omega) (by omega) fun u hu0 hu1 => ?_
        simp only [wSeq2, wNext, wRet, wDrop, wIfS, wSet, wSetO, wSetN, wSetC, wSetIx, wSetI, wSetBx, wSetB, wAug, wApp, wAsg, wPar, wNilO, wConsO, wConsN, wL2N, putR, noUn, wVar, wC, wNil, wCons, wTup, wLst, wFz, wOp, wB, wAnd, wOr, wNot, wAndV, wOrV, wNotV, wIf, wNeg, wCB, wCL, wCallD, wRetB, wIsi, wSl, wNoPart, wPart, wRev, wFrz, wLend, wLendT, wLendL, muW, wFor, wSeq, wRange1, wRange2, wLc, wipeR, wgName, wgTup, wgLst, wgCons, wgNil, startR, wJoin, wZip, wEnum, wEnumA, wDisp1, wDGet2, wBrk, wCnt, wIxOx, wIxO, wPopSet, wPopAt, wPopAtSet, popAtW, wExt, wSet2, xE, xT, xA, xCons, xTup, xLst, xFz, xOp, xB, xNot, xAnd, xOr, xSl, xCB, xCallD, xCallX, xCallL, xRet, xDrop, xIfS, xSet, xAsg, wRaise, wTry, wHandle, outPs, wXf, wXis, wChain, wCat, wLm, gCnt, ev_addI, ev_addS, ev_addT, ev_addL, ev_mulI, ev_I, ev_I0, ev_ltI, ev_ltS, ev_ge, ev_eqI, ev_eqS, ev_eqB, ev_p0, ev_p1, ev_p2, ev_lenL, ev_lenT, ev_lenS, ev_lenQ, ev_lenK, ev_tupL, ev_tupT, ev_lisL, ev_lisT, ev_intI, ev_intB, ev_max2, ev_min2, ev_repr, ev_reprB, ev_reprT, ev_eqRp, ev_slL, ev_slT, ev_slS, ev_seqL, ev_seqT, ev_seqS, ev_inL, ev_inT, ev_isB, ev_dO, ev_dat0, ev_dat1, ev_dat2, ev_dat3, ev_dat4, ev_dat5, ev_dat8, ev_i0, ev_i1, ev_i2, ev_l0, ev_l1, ev_l2, dats, List.zip_cons_cons, List.zip_nil_right, List.zip_nil_left, List.reverse_singleton, List.reverse_cons, List.reverse_nil, wYes, List.getElem?_cons_zero, List.getElem?_cons_succ, List.set_cons_zero, List.set_cons_succ, List.map_cons, List.map_nil, List.cons_append, List.nil_append, List.append_nil, List.replicate, List.length_cons, List.length_nil, Nat.reduceAdd, Nat.reduceSub, Option.some.injEq, List.append_eq, Nat.zero_add, exists_eq', exists_eq_left', Sl.mu.injEq, Mu.l.injEq, Sl.sh.injEq, W.p.injEq, true_and, and_true, or_true, true_or, ite_true, ite_false, if_true, if_false, Bool.false_eq_true, decide_eq_true_eq]
        refine r_ixstr hu0 hu1 fun x _ _ => ?_
        exact hC _ ⟨xs ++ [x], by rw [List.map_append]; rfl, by rw [List.length_append, hl]; rfl⟩
      obtain ⟨xs, rfl, hl⟩ := hI
      obtain ⟨one, other, rfl⟩ : ∃ one other : Str, xs = [one, other] := by
        have h2 : xs.length = 2 := by simpa [intsFrom_len] using hl
        match xs, h2 with
        | [a, b], _ => exact ⟨a, b, rfl⟩
      simp only [wSeq2, wNext, wRet, wDrop, wIfS, wSet, wSetO, wSetN, wSetC, wSetIx, wSetI, wSetBx, wSetB, wAug, wApp, wAsg, wPar, wNilO, wConsO, wConsN, wL2N, putR, noUn, wVar, wC, wNil, wCons, wTup, wLst, wFz, wOp, wB, wAnd, wOr, wNot, wAndV, wOrV, wNotV, wIf, wNeg, wCB, wCL, wCallD, wRetB, wIsi, wSl, wNoPart, wPart, wRev, wFrz, wLend, wLendT, wLendL, muW, wFor, wSeq, wRange1, wRange2, wLc, wipeR, wgName, wgTup, wgLst, wgCons, wgNil, startR, wJoin, wZip, wEnum, wEnumA, wDisp1, wDGet2, wBrk, wCnt, wIxOx, wIxO, wPopSet, wPopAt, wPopAtSet, popAtW, wExt, wSet2, xE, xT, xA, xCons, xTup, xLst, xFz, xOp, xB, xNot, xAnd, xOr, xSl, xCB, xCallD, xCallX, xCallL, xRet, xDrop, xIfS, xSet, xAsg, wRaise, wTry, wHandle, outPs, wXf, wXis, wChain, wCat, wLm, gCnt, ev_addI, ev_addS, ev_addT, ev_addL, ev_mulI, ev_I, ev_I0, ev_ltI, ev_ltS, ev_ge, ev_eqI, ev_eqS, ev_eqB, ev_p0, ev_p1, ev_p2, ev_lenL, ev_lenT, ev_lenS, ev_lenQ, ev_lenK, ev_tupL, ev_tupT, ev_lisL, ev_lisT, ev_intI, ev_intB, ev_max2, ev_min2, ev_repr, ev_reprB, ev_reprT, ev_eqRp, ev_slL, ev_slT, ev_slS, ev_seqL, ev_seqT, ev_seqS, ev_inL, ev_inT, ev_isB, ev_dO, ev_dat0, ev_dat1, ev_dat2, ev_dat3, ev_dat4, ev_dat5, ev_dat8, ev_i0, ev_i1, ev_i2, ev_l0, ev_l1, ev_l2, dats, List.zip_cons_cons, List.zip_nil_right, List.zip_nil_left, List.reverse_singleton, List.reverse_cons, List.reverse_nil, wYes, List.getElem?_cons_zero, List.getElem?_cons_succ, List.set_cons_zero, List.set_cons_succ, List.map_cons, List.map_nil, List.cons_append, List.nil_append, List.append_nil, List.replicate, List.length_cons, List.length_nil, Nat.reduceAdd, Nat.reduceSub, Option.some.injEq, List.append_eq, Nat.zero_add, exists_eq', exists_eq_left', Sl.mu.injEq, Mu.l.injEq, Sl.sh.injEq, W.p.injEq, true_and, and_true, or_true, true_or, ite_true, ite_false, if_true, if_false, Bool.false_eq_true, decide_eq_true_eq]
      refine ⟨pair_repr ok (by decide) (by omega) so (by decide), ?_⟩
      refine ⟨names, doors, one, other, rfl, by omega, ?_⟩
      simp only [wSeq2, wNext, wRet, wDrop, wIfS, wSet, wSetO, wSetN, wSetC, wSetIx, wSetI, wSetBx, wSetB, wAug, wApp, wAsg, wPar, wNilO, wConsO, wConsN, wL2N, putR, noUn, wVar, wC, wNil, wCons, wTup, wLst, wFz, wOp, wB, wAnd, wOr, wNot, wAndV, wOrV, wNotV, wIf, wNeg, wCB, wCL, wCallD, wRetB, wIsi, wSl, wNoPart, wPart, wRev, wFrz, wLend, wLendT, wLendL, muW, wFor, wSeq, wRange1, wRange2, wLc, wipeR, wgName, wgTup, wgLst, wgCons, wgNil, startR, wJoin, wZip, wEnum, wEnumA, wDisp1, wDGet2, wBrk, wCnt, wIxOx, wIxO, wPopSet, wPopAt, wPopAtSet, popAtW, wExt, wSet2, xE, xT, xA, xCons, xTup, xLst, xFz, xOp, xB, xNot, xAnd, xOr, xSl, xCB, xCallD, xCallX, xCallL, xRet, xDrop, xIfS, xSet, xAsg, wRaise, wTry, wHandle, outPs, wXf, wXis, wChain, wCat, wLm, gCnt, ev_addI, ev_addS, ev_addT, ev_addL, ev_mulI, ev_I, ev_I0, ev_ltI, ev_ltS, ev_ge, ev_eqI, ev_eqS, ev_eqB, ev_p0, ev_p1, ev_p2, ev_lenL, ev_lenT, ev_lenS, ev_lenQ, ev_lenK, ev_tupL, ev_tupT, ev_lisL, ev_lisT, ev_intI, ev_intB, ev_max2, ev_min2, ev_repr, ev_reprB, ev_reprT, ev_eqRp, ev_slL, ev_slT, ev_slS, ev_seqL, ev_seqT, ev_seqS, ev_inL, ev_inT, ev_isB, ev_dO, ev_dat0, ev_dat1, ev_dat2, ev_dat3, ev_dat4, ev_dat5, ev_dat8, ev_i0, ev_i1, ev_i2, ev_l0, ev_l1, ev_l2, dats, List.zip_cons_cons, List.zip_nil_right, List.zip_nil_left, List.reverse_singleton, List.reverse_cons, List.reverse_nil, wYes, List.getElem?_cons_zero, List.getElem?_cons_succ, List.set_cons_zero, List.set_cons_succ, List.map_cons, List.map_nil, List.cons_append, List.nil_append, List.append_nil, List.replicate, List.length_cons, List.length_nil, Nat.reduceAdd, Nat.reduceSub, Option.some.injEq, List.append_eq, Nat.zero_add, exists_eq', exists_eq_left', Sl.mu.injEq, Mu.l.injEq, Sl.sh.injEq, W.p.injEq, true_and, and_true, or_true, true_or, ite_true, ite_false, if_true, if_false, Bool.false_eq_true, decide_eq_true_eq]
      refine ⟨names, doors, one, other, rfl, by omega, ?_⟩
      simp only [wSeq2, wNext, wRet, wDrop, wIfS, wSet, wSetO, wSetN, wSetC, wSetIx, wSetI, wSetBx, wSetB, wAug, wApp, wAsg, wPar, wNilO, wConsO, wConsN, wL2N, putR, noUn, wVar, wC, wNil, wCons, wTup, wLst, wFz, wOp, wB, wAnd, wOr, wNot, wAndV, wOrV, wNotV, wIf, wNeg, wCB, wCL, wCallD, wRetB, wIsi, wSl, wNoPart, wPart, wRev, wFrz, wLend, wLendT, wLendL, muW, wFor, wSeq, wRange1, wRange2, wLc, wipeR, wgName, wgTup, wgLst, wgCons, wgNil, startR, wJoin, wZip, wEnum, wEnumA, wDisp1, wDGet2, wBrk, wCnt, wIxOx, wIxO, wPopSet, wPopAt, wPopAtSet, popAtW, wExt, wSet2, xE, xT, xA, xCons, xTup, xLst, xFz, xOp, xB, xNot, xAnd, xOr, xSl, xCB, xCallD, xCallX, xCallL, xRet, xDrop, xIfS, xSet, xAsg, wRaise, wTry, wHandle, outPs, wXf, wXis, wChain, wCat, wLm, gCnt, ev_addI, ev_addS, ev_addT, ev_addL, ev_mulI, ev_I, ev_I0, ev_ltI, ev_ltS, ev_ge, ev_eqI, ev_eqS, ev_eqB, ev_p0, ev_p1, ev_p2, ev_lenL, ev_lenT, ev_lenS, ev_lenQ, ev_lenK, ev_tupL, ev_tupT, ev_lisL, ev_lisT, ev_intI, ev_intB, ev_max2, ev_min2, ev_repr, ev_reprB, ev_reprT, ev_eqRp, ev_slL, ev_slT, ev_slS, ev_seqL, ev_seqT, ev_seqS, ev_inL, ev_inT, ev_isB, ev_dO, ev_dat0, ev_dat1, ev_dat2, ev_dat3, ev_dat4, ev_dat5, ev_dat8, ev_i0, ev_i1, ev_i2, ev_l0, ev_l1, ev_l2, dats, List.zip_cons_cons, List.zip_nil_right, List.zip_nil_left, List.reverse_singleton, List.reverse_cons, List.reverse_nil, wYes, List.getElem?_cons_zero, List.getElem?_cons_succ, List.set_cons_zero, List.set_cons_succ, List.map_cons, List.map_nil, List.cons_append, List.nil_append, List.append_nil, List.replicate, List.length_cons, List.length_nil, Nat.reduceAdd, Nat.reduceSub, Option.some.injEq, List.append_eq, Nat.zero_add, exists_eq', exists_eq_left', Sl.mu.injEq, Mu.l.injEq, Sl.sh.injEq, W.p.injEq, true_and, and_true, or_true, true_or, ite_true, ite_false, if_true, if_false, Bool.false_eq_true, decide_eq_true_eq]
      refine r_alike (due_plain _).1 (Nat.le_trans (due_plain _).2 (by decide)) ?_
      simp only [wSeq2, wNext, wRet, wDrop, wIfS, wSet, wSetO, wSetN, wSetC, wSetIx, wSetI, wSetBx, wSetB, wAug, wApp, wAsg, wPar, wNilO, wConsO, wConsN, wL2N, putR, noUn, wVar, wC, wNil, wCons, wTup, wLst, wFz, wOp, wB, wAnd, wOr, wNot, wAndV, wOrV, wNotV, wIf, wNeg, wCB, wCL, wCallD, wRetB, wIsi, wSl, wNoPart, wPart, wRev, wFrz, wLend, wLendT, wLendL, muW, wFor, wSeq, wRange1, wRange2, wLc, wipeR, wgName, wgTup, wgLst, wgCons, wgNil, startR, wJoin, wZip, wEnum, wEnumA, wDisp1, wDGet2, wBrk, wCnt, wIxOx, wIxO, wPopSet, wPopAt, wPopAtSet, popAtW, wExt, wSet2, xE, xT, xA, xCons, xTup, xLst, xFz, xOp, xB, xNot, xAnd, xOr, xSl, xCB, xCallD, xCallX, xCallL, xRet, xDrop, xIfS, xSet, xAsg, wRaise, wTry, wHandle, outPs, wXf, wXis, wChain, wCat, wLm, gCnt, ev_addI, ev_addS, ev_addT, ev_addL, ev_mulI, ev_I, ev_I0, ev_ltI, ev_ltS, ev_ge, ev_eqI, ev_eqS, ev_eqB, ev_p0, ev_p1, ev_p2, ev_lenL, ev_lenT, ev_lenS, ev_lenQ, ev_lenK, ev_tupL, ev_tupT, ev_lisL, ev_lisT, ev_intI, ev_intB, ev_max2, ev_min2, ev_repr, ev_reprB, ev_reprT, ev_eqRp, ev_slL, ev_slT, ev_slS, ev_seqL, ev_seqT, ev_seqS, ev_inL, ev_inT, ev_isB, ev_dO, ev_dat0, ev_dat1, ev_dat2, ev_dat3, ev_dat4, ev_dat5, ev_dat8, ev_i0, ev_i1, ev_i2, ev_l0, ev_l1, ev_l2, dats, List.zip_cons_cons, List.zip_nil_right, List.zip_nil_left, List.reverse_singleton, List.reverse_cons, List.reverse_nil, wYes, List.getElem?_cons_zero, List.getElem?_cons_succ, List.set_cons_zero, List.set_cons_succ, List.map_cons, List.map_nil, List.cons_append, List.nil_append, List.append_nil, List.replicate, List.length_cons, List.length_nil, Nat.reduceAdd, Nat.reduceSub, Option.some.injEq, List.append_eq, Nat.zero_add, exists_eq', exists_eq_left', Sl.mu.injEq, Mu.l.injEq, Sl.sh.injEq, W.p.injEq, true_and, and_true, or_true, true_or, ite_true, ite_false, if_true, if_false, Bool.false_eq_true, decide_eq_true_eq, Bool.not_true]
      have hrep := pair_repr ok (by decide) (by omega) so (by decide)
      cases ho : glueOut names doors one other with
      | room x =>
        simp only [dueG, wSeq2, wNext, wRet, wDrop, wIfS, wSet, wSetO, wSetN, wSetC, wSetIx, wSetI, wSetBx, wSetB, wAug, wApp, wAsg, wPar, wNilO, wConsO, wConsN, wL2N, putR, noUn, wVar, wC, wNil, wCons, wTup, wLst, wFz, wOp, wB, wAnd, wOr, wNot, wAndV, wOrV, wNotV, wIf, wNeg, wCB, wCL, wCallD, wRetB, wIsi, wSl, wNoPart, wPart, wRev, wFrz, wLend, wLendT, wLendL, muW, wFor, wSeq, wRange1, wRange2, wLc, wipeR, wgName, wgTup, wgLst, wgCons, wgNil, startR, wJoin, wZip, wEnum, wEnumA, wDisp1, wDGet2, wBrk, wCnt, wIxOx, wIxO, wPopSet, wPopAt, wPopAtSet, popAtW, wExt, wSet2, xE, xT, xA, xCons, xTup, xLst, xFz, xOp, xB, xNot, xAnd, xOr, xSl, xCB, xCallD, xCallX, xCallL, xRet, xDrop, xIfS, xSet, xAsg, wRaise, wTry, wHandle, outPs, wXf, wXis, wChain, wCat, wLm, gCnt, ev_addI, ev_addS, ev_addT, ev_addL, ev_mulI, ev_I, ev_I0, ev_ltI, ev_ltS, ev_ge, ev_eqI, ev_eqS, ev_eqB, ev_p0, ev_p1, ev_p2, ev_lenL, ev_lenT, ev_lenS, ev_lenQ, ev_lenK, ev_tupL, ev_tupT, ev_lisL, ev_lisT, ev_intI, ev_intB, ev_max2, ev_min2, ev_repr, ev_reprB, ev_reprT, ev_eqRp, ev_slL, ev_slT, ev_slS, ev_seqL, ev_seqT, ev_seqS, ev_inL, ev_inT, ev_isB, ev_dO, ev_dat0, ev_dat1, ev_dat2, ev_dat3, ev_dat4, ev_dat5, ev_dat8, ev_i0, ev_i1, ev_i2, ev_l0, ev_l1, ev_l2, dats, List.zip_cons_cons, List.zip_nil_right, List.zip_nil_left, List.reverse_singleton, List.reverse_cons, List.reverse_nil, wYes, List.getElem?_cons_zero, List.getElem?_cons_succ, List.set_cons_zero, List.set_cons_succ, List.map_cons, List.map_nil, List.cons_append, List.nil_append, List.append_nil, List.replicate, List.length_cons, List.length_nil, Nat.reduceAdd, Nat.reduceSub, Option.some.injEq, List.append_eq, Nat.zero_add, exists_eq', exists_eq_left', Sl.mu.injEq, Mu.l.injEq, Sl.sh.injEq, W.p.injEq, true_and, and_true, or_true, true_or, ite_true, ite_false, if_true, if_false, Bool.false_eq_true, decide_eq_true_eq, ev_eq, eqS]
        refine ⟨by rw [d0]; omega, ?_⟩
        rw [if_neg (by decide +kernel)]
        exact tail4 hrep (hC' _ ⟨_, _, _, _, _, _, _, _, _, rfl⟩)
      | hall r i =>
        simp only [dueG, wSeq2, wNext, wRet, wDrop, wIfS, wSet, wSetO, wSetN, wSetC, wSetIx, wSetI, wSetBx, wSetB, wAug, wApp, wAsg, wPar, wNilO, wConsO, wConsN, wL2N, putR, noUn, wVar, wC, wNil, wCons, wTup, wLst, wFz, wOp, wB, wAnd, wOr, wNot, wAndV, wOrV, wNotV, wIf, wNeg, wCB, wCL, wCallD, wRetB, wIsi, wSl, wNoPart, wPart, wRev, wFrz, wLend, wLendT, wLendL, muW, wFor, wSeq, wRange1, wRange2, wLc, wipeR, wgName, wgTup, wgLst, wgCons, wgNil, startR, wJoin, wZip, wEnum, wEnumA, wDisp1, wDGet2, wBrk, wCnt, wIxOx, wIxO, wPopSet, wPopAt, wPopAtSet, popAtW, wExt, wSet2, xE, xT, xA, xCons, xTup, xLst, xFz, xOp, xB, xNot, xAnd, xOr, xSl, xCB, xCallD, xCallX, xCallL, xRet, xDrop, xIfS, xSet, xAsg, wRaise, wTry, wHandle, outPs, wXf, wXis, wChain, wCat, wLm, gCnt, ev_addI, ev_addS, ev_addT, ev_addL, ev_mulI, ev_I, ev_I0, ev_ltI, ev_ltS, ev_ge, ev_eqI, ev_eqS, ev_eqB, ev_p0, ev_p1, ev_p2, ev_lenL, ev_lenT, ev_lenS, ev_lenQ, ev_lenK, ev_tupL, ev_tupT, ev_lisL, ev_lisT, ev_intI, ev_intB, ev_max2, ev_min2, ev_repr, ev_reprB, ev_reprT, ev_eqRp, ev_slL, ev_slT, ev_slS, ev_seqL, ev_seqT, ev_seqS, ev_inL, ev_inT, ev_isB, ev_dO, ev_dat0, ev_dat1, ev_dat2, ev_dat3, ev_dat4, ev_dat5, ev_dat8, ev_i0, ev_i1, ev_i2, ev_l0, ev_l1, ev_l2, dats, List.zip_cons_cons, List.zip_nil_right, List.zip_nil_left, List.reverse_singleton, List.reverse_cons, List.reverse_nil, wYes, List.getElem?_cons_zero, List.getElem?_cons_succ, List.set_cons_zero, List.set_cons_succ, List.map_cons, List.map_nil, List.cons_append, List.nil_append, List.append_nil, List.replicate, List.length_cons, List.length_nil, Nat.reduceAdd, Nat.reduceSub, Option.some.injEq, List.append_eq, Nat.zero_add, exists_eq', exists_eq_left', Sl.mu.injEq, Mu.l.injEq, Sl.sh.injEq, W.p.injEq, true_and, and_true, or_true, true_or, ite_true, ite_false, if_true, if_false, Bool.false_eq_true, decide_eq_true_eq, ev_eq, eqS]
        refine ⟨by rw [d0]; omega, ?_⟩
        rw [if_neg (by decide +kernel)]
        exact tail4 hrep (hC' _ ⟨_, _, _, _, _, _, _, _, _, rfl⟩)
      | res rs ds =>
        simp only [dueG, wSeq2, wNext, wRet, wDrop, wIfS, wSet, wSetO, wSetN, wSetC, wSetIx, wSetI, wSetBx, wSetB, wAug, wApp, wAsg, wPar, wNilO, wConsO, wConsN, wL2N, putR, noUn, wVar, wC, wNil, wCons, wTup, wLst, wFz, wOp, wB, wAnd, wOr, wNot, wAndV, wOrV, wNotV, wIf, wNeg, wCB, wCL, wCallD, wRetB, wIsi, wSl, wNoPart, wPart, wRev, wFrz, wLend, wLendT, wLendL, muW, wFor, wSeq, wRange1, wRange2, wLc, wipeR, wgName, wgTup, wgLst, wgCons, wgNil, startR, wJoin, wZip, wEnum, wEnumA, wDisp1, wDGet2, wBrk, wCnt, wIxOx, wIxO, wPopSet, wPopAt, wPopAtSet, popAtW, wExt, wSet2, xE, xT, xA, xCons, xTup, xLst, xFz, xOp, xB, xNot, xAnd, xOr, xSl, xCB, xCallD, xCallX, xCallL, xRet, xDrop, xIfS, xSet, xAsg, wRaise, wTry, wHandle, outPs, wXf, wXis, wChain, wCat, wLm, gCnt, ev_addI, ev_addS, ev_addT, ev_addL, ev_mulI, ev_I, ev_I0, ev_ltI, ev_ltS, ev_ge, ev_eqI, ev_eqS, ev_eqB, ev_p0, ev_p1, ev_p2, ev_lenL, ev_lenT, ev_lenS, ev_lenQ, ev_lenK, ev_tupL, ev_tupT, ev_lisL, ev_lisT, ev_intI, ev_intB, ev_max2, ev_min2, ev_repr, ev_reprB, ev_reprT, ev_eqRp, ev_slL, ev_slT, ev_slS, ev_seqL, ev_seqT, ev_seqS, ev_inL, ev_inT, ev_isB, ev_dO, ev_dat0, ev_dat1, ev_dat2, ev_dat3, ev_dat4, ev_dat5, ev_dat8, ev_i0, ev_i1, ev_i2, ev_l0, ev_l1, ev_l2, dats, List.zip_cons_cons, List.zip_nil_right, List.zip_nil_left, List.reverse_singleton, List.reverse_cons, List.reverse_nil, wYes, List.getElem?_cons_zero, List.getElem?_cons_succ, List.set_cons_zero, List.set_cons_succ, List.map_cons, List.map_nil, List.cons_append, List.nil_append, List.append_nil, List.replicate, List.length_cons, List.length_nil, Nat.reduceAdd, Nat.reduceSub, Option.some.injEq, List.append_eq, Nat.zero_add, exists_eq', exists_eq_left', Sl.mu.injEq, Mu.l.injEq, Sl.sh.injEq, W.p.injEq, true_and, and_true, or_true, true_or, ite_true, ite_false, if_true, if_false, Bool.false_eq_true, decide_eq_true_eq, ev_eq, eqS]
        refine ⟨by rw [d0]; omega, ?_⟩
        rw [if_pos (by decide +kernel)]
        refine ⟨hallD rs ds, rfl, ?_⟩
        rw [glue_ok ok hD12 ho]
        simp only [wSeq2, wNext, wRet, wDrop, wIfS, wSet, wSetO, wSetN, wSetC, wSetIx, wSetI, wSetBx, wSetB, wAug, wApp, wAsg, wPar, wNilO, wConsO, wConsN, wL2N, putR, noUn, wVar, wC, wNil, wCons, wTup, wLst, wFz, wOp, wB, wAnd, wOr, wNot, wAndV, wOrV, wNotV, wIf, wNeg, wCB, wCL, wCallD, wRetB, wIsi, wSl, wNoPart, wPart, wRev, wFrz, wLend, wLendT, wLendL, muW, wFor, wSeq, wRange1, wRange2, wLc, wipeR, wgName, wgTup, wgLst, wgCons, wgNil, startR, wJoin, wZip, wEnum, wEnumA, wDisp1, wDGet2, wBrk, wCnt, wIxOx, wIxO, wPopSet, wPopAt, wPopAtSet, popAtW, wExt, wSet2, xE, xT, xA, xCons, xTup, xLst, xFz, xOp, xB, xNot, xAnd, xOr, xSl, xCB, xCallD, xCallX, xCallL, xRet, xDrop, xIfS, xSet, xAsg, wRaise, wTry, wHandle, outPs, wXf, wXis, wChain, wCat, wLm, gCnt, ev_addI, ev_addS, ev_addT, ev_addL, ev_mulI, ev_I, ev_I0, ev_ltI, ev_ltS, ev_ge, ev_eqI, ev_eqS, ev_eqB, ev_p0, ev_p1, ev_p2, ev_lenL, ev_lenT, ev_lenS, ev_lenQ, ev_lenK, ev_tupL, ev_tupT, ev_lisL, ev_lisT, ev_intI, ev_intB, ev_max2, ev_min2, ev_repr, ev_reprB, ev_reprT, ev_eqRp, ev_slL, ev_slT, ev_slS, ev_seqL, ev_seqT, ev_seqS, ev_inL, ev_inT, ev_isB, ev_dO, ev_dat0, ev_dat1, ev_dat2, ev_dat3, ev_dat4, ev_dat5, ev_dat8, ev_i0, ev_i1, ev_i2, ev_l0, ev_l1, ev_l2, dats, List.zip_cons_cons, List.zip_nil_right, List.zip_nil_left, List.reverse_singleton, List.reverse_cons, List.reverse_nil, wYes, List.getElem?_cons_zero, List.getElem?_cons_succ, List.set_cons_zero, List.set_cons_succ, List.map_cons, List.map_nil, List.cons_append, List.nil_append, List.append_nil, List.replicate, List.length_cons, List.length_nil, Nat.reduceAdd, Nat.reduceSub, Option.some.injEq, List.append_eq, Nat.zero_add, exists_eq', exists_eq_left', Sl.mu.injEq, Mu.l.injEq, Sl.sh.injEq, W.p.injEq, true_and, and_true, or_true, true_or, ite_true, ite_false, if_true, if_false, Bool.false_eq_true, decide_eq_true_eq, ev_isB]
        exact tail4 hrep (hC' _ ⟨_, _, _, _, _, _, _, _, _, rfl⟩)
    · obtain ⟨s6, s7, s8, s9, s10, s11, s12, s13, s14, rfl⟩ := hI
      exact hC _ ⟨_, _, _, _, _, _, _, _, _, _, _, _, _, _, rfl⟩
  · obtain ⟨s1, s2, s3, s4, s5, s6, s7, s8, s9, s10, s11, s12, s13, s14, rfl⟩ := hI
    try simp only [wSeq2, wNext, wRet, wDrop, wIfS, wSet, wSetO, wSetN, wSetC, wSetIx, wSetI, wSetBx, wSetB, wAug, wApp, wAsg, wPar, wNilO, wConsO, wConsN, wL2N, putR, noUn, wVar, wC, wNil, wCons, wTup, wLst, wFz, wOp, wB, wAnd, wOr, wNot, wAndV, wOrV, wNotV, wIf, wNeg, wCB, wCL, wCallD, wRetB, wIsi, wSl, wNoPart, wPart, wRev, wFrz, wLend, wLendT, wLendL, muW, wFor, wSeq, wRange1, wRange2, wLc, wipeR, wgName, wgTup, wgLst, wgCons, wgNil, startR, wJoin, wZip, wEnum, wEnumA, wDisp1, wDGet2, wBrk, wCnt, wIxOx, wIxO, wPopSet, wPopAt, wPopAtSet, popAtW, wExt, wSet2, xE, xT, xA, xCons, xTup, xLst, xFz, xOp, xB, xNot, xAnd, xOr, xSl, xCB, xCallD, xCallX, xCallL, xRet, xDrop, xIfS, xSet, xAsg, wRaise, wTry, wHandle, outPs, wXf, wXis, wChain, wCat, wLm, gCnt, ev_addI, ev_addS, ev_addT, ev_addL, ev_mulI, ev_I, ev_I0, ev_ltI, ev_ltS, ev_ge, ev_eqI, ev_eqS, ev_eqB, ev_p0, ev_p1, ev_p2, ev_lenL, ev_lenT, ev_lenS, ev_lenQ, ev_lenK, ev_tupL, ev_tupT, ev_lisL, ev_lisT, ev_intI, ev_intB, ev_max2, ev_min2, ev_repr, ev_reprB, ev_reprT, ev_eqRp, ev_slL, ev_slT, ev_slS, ev_seqL, ev_seqT, ev_seqS, ev_inL, ev_inT, ev_isB, ev_dO, ev_dat0, ev_dat1, ev_dat2, ev_dat3, ev_dat4, ev_dat5, ev_dat8, ev_i0, ev_i1, ev_i2, ev_l0, ev_l1, ev_l2, dats, List.zip_cons_cons, List.zip_nil_right, List.zip_nil_left, List.reverse_singleton, List.reverse_cons, List.reverse_nil, wYes, List.getElem?_cons_zero, List.getElem?_cons_succ, List.set_cons_zero, List.set_cons_succ, List.map_cons, List.map_nil, List.cons_append, List.nil_append, List.append_nil, List.replicate, List.length_cons, List.length_nil, Nat.reduceAdd, Nat.reduceSub, Option.some.injEq, List.append_eq, Nat.zero_add, exists_eq', exists_eq_left', Sl.mu.injEq, Mu.l.injEq, Sl.sh.injEq, W.p.injEq, true_and, and_true, or_true, true_or, ite_true, ite_false, if_true, if_false, Bool.false_eq_true, decide_eq_true_eq]
    exact q
end Pd
end

section
set_option Elab.async false
set_option linter.all false
set_option maxRecDepth 100000
set_option autoImplicit false
set_option maxHeartbeats 4000000
namespace Pd
open PySem PySem.Spec PyProof.Rows L2
def topS (i : Nat) : Stmt := PySem.Challenge.pw_turndoors_k04_glue.main.body.getD i (.Pass ⟨0, 0, 0, 0⟩)
def clsS (i j : Nat) : Stmt := match topS i with
  | .ClassDef _ _ _ b _ _ _ _ _ _ _ => b.getD j (.Pass ⟨0, 0, 0, 0⟩)
  | _ => .Pass ⟨0, 0, 0, 0⟩
section
variable {P : Program} {w : World} {K : PySem.W.Frag} {mg : Str → Option Value} {base : Heap}
abbrev i_InvalidHall : Stmt := clsS 2 0
theorem sc_i_InvalidHall : FnScope ["self", "reason", "index"] ["self", "reason", "index"] (defScope i_InvalidHall) := ⟨rfl, rfl, rfl, by decide +kernel, rfl, by decide +kernel, by decide +kernel⟩
theorem oe_InvalidHall {C fI : Addr} {fd : FuncData} (hm : mg "InvalidHall" = some (.ref C)) (T : OeK K C "ValueError.__init__") (hi : PySem.W.findIn K (.ref C) "__init__" = some (some (.ref fI))) (tI : PySem.W.typeIn K (.ref fI) = some (.type "function")) (F : Fun K "__init__" "InvalidHall.__init__" i_InvalidHall fI fd) (b : Binds K fd ["self", "reason", "index"] []) (nf_reason : PySem.W.findIn K (.ref C) "reason" = some none) (nf_index : PySem.W.findIn K (.ref C) "index" = some none) (hb : BaseX K mg "HallError") : Oe P w K mg base "InvalidHall" ["reason", "index"] := by
  obtain ⟨D1, hm1, hga1, hr1, vV1⟩ := hb.ex
  exact ⟨C, fI, fd, ["self", "reason", "index"], _, hm, T, hi, tI, init_two F sc_i_InvalidHall T nf_reason nf_index fun cdv A outer s H E => ⟨_, pss_cons (ps_expr (pe_initC rfl hm1 hga1 hr1 vV1 (by decide +kernel) (pa_cons (me_var 0).pe (pa_cons pe_str pa_nil)))) (pss_cons (ps_fldX (me_var 0).pe (me_var 1).pe) (pss_one (ps_fldX (me_var 0).pe (me_var 2).pe))), _, rfl⟩, b, rfl, by decide, by simp⟩
abbrev i_UnknownRoom : Stmt := clsS 3 0
theorem sc_i_UnknownRoom : FnScope ["self", "name"] ["self", "name"] (defScope i_UnknownRoom) := ⟨rfl, rfl, rfl, by decide +kernel, rfl, by decide +kernel, by decide +kernel⟩
theorem oe_UnknownRoom {C fI : Addr} {fd : FuncData} (hm : mg "UnknownRoom" = some (.ref C)) (T : OeK K C "KeyError.__init__") (hi : PySem.W.findIn K (.ref C) "__init__" = some (some (.ref fI))) (tI : PySem.W.typeIn K (.ref fI) = some (.type "function")) (F : Fun K "__init__" "UnknownRoom.__init__" i_UnknownRoom fI fd) (b : Binds K fd ["self", "name"] []) (nf_name : PySem.W.findIn K (.ref C) "name" = some none) (hk : mg "KeyError" = none) (vV : PySem.W.findCls K (.type "KeyError") (.type "type") "__init__" = some (.val (.builtin "KeyError.__init__"))) : Oe P w K mg base "UnknownRoom" ["name"] := by
  exact ⟨C, fI, fd, ["self", "name"], _, hm, T, hi, tI, init_one F sc_i_UnknownRoom T nf_name fun cdv A outer s H E => ⟨_, pss_cons (ps_expr (pe_initK rfl hk vV (pa_cons (me_var 0).pe (pa_cons pe_str pa_nil)))) (pss_one (ps_fldX (me_var 0).pe (me_var 1).pe)), _, rfl⟩, b, rfl, by decide, by simp⟩
abbrev s_is_name : Stmt := topS 9
theorem sc_is_name : FnScope n_is_name ["value"] (defScope s_is_name) := ⟨rfl, rfl, rfl, by decide +kernel, rfl, by decide +kernel, by decide +kernel⟩
theorem cl_is_name {F0 : FW} {k : Nat} (d : Df K mg "is_name" s_is_name ["value"]) (z_len : mg "len" = none) (z_isinstance : mg "isinstance" = none) (z_str : mg "str" = none) (z_all : mg "all" = none) (g_NAME_LENGTH : ∃ t, mg "NAME_LENGTH" = some (.int 6 t)) (g_LETTERS : ∃ t, mg "LETTERS" = some (.str "abcdefghijklmnopqrstuvwxyz" t))
    (m : ∀ ws Φ, F0 ws Φ → w_is_name (startR n_is_name ws) ⟨fun _ => Φ (.d .none), Φ, fun _ => False, fun _ => False, fun _ _ => False⟩) : Cl P w K mg base (k + 1) "is_name" 1 F0 :=
  d.cl (ξ := xi0) sc_is_name fun f cdv A outer s H hr hg => ⟨_, _, (mss_cons (ms_if (mt_w (mw_or (mt_not (mt_val (me_isi .str (he := (me_var 0)) (hm := z_isinstance) (hm1 := z_str)))) (mw_or1 (mt_not (mt_chain om_le om_le me_int (me_callB cm_len z_len (ha := (ma_cons (me_var 0) ma_nil))) (me_gi g_NAME_LENGTH)))))) (mss_one (ms_ret me_bl)) mss_nil)
      (mss_one (ms_ret (me_callB (cm_all) z_all (ha := (ma_cons (me_fz (ml_lcX [("letter", 1)] sc_is_name.nd (mi_seq (me_var 0)) (blkOk_by (own := [("letter", 1)]) (N := n_is_name) (sc := defScope s_is_name) (by decide +kernel)) (fun _ _ _ _ _ => ⟨_, (mg_name 1 sc_is_name.nd)⟩) (fun _ _ _ _ _ => ⟨_, mts_nil⟩) (fun _ _ _ _ _ => ⟨_, (me_cmp (om_in hr) (me_var 1) (me_gs g_LETTERS ⟨by decide +kernel, le_line (by decide +kernel)⟩))⟩))) ma_nil)))))), m⟩
abbrev s_are_strings : Stmt := topS 10
theorem sc_are_strings : FnScope n_are_strings ["value", "size"] (defScope s_are_strings) := ⟨rfl, rfl, rfl, by decide +kernel, rfl, by decide +kernel, by decide +kernel⟩
theorem cl_are_strings {F0 : FW} {k : Nat} (d : Df K mg "are_strings" s_are_strings ["value", "size"]) (z_isinstance : mg "isinstance" = none) (z_str : mg "str" = none) (z_all : mg "all" = none) (z_len : mg "len" = none) (z_tuple : mg "tuple" = none)
    (m : ∀ ws Φ, F0 ws Φ → w_are_strings (startR n_are_strings ws) ⟨fun _ => Φ (.d .none), Φ, fun _ => False, fun _ => False, fun _ _ => False⟩) : Cl P w K mg base (k + 1) "are_strings" 2 F0 :=
  d.cl (ξ := xi0) sc_are_strings fun f cdv A outer s H hr hg => ⟨_, _, (mss_one (ms_ret (me_and (me_isi .tuple (he := (me_var 0)) (hm := z_isinstance) (hm1 := z_tuple)) (me_and (me_cmp (om_eq hr) (me_callB cm_len z_len (ha := (ma_cons (me_var 0) ma_nil))) (me_var 1)) (me_one (me_callB (cm_all) z_all (ha := (ma_cons (me_fz (ml_lcX [("part", 2)] sc_are_strings.nd (mi_seq (me_var 0)) (blkOk_by (own := [("part", 2)]) (N := n_are_strings) (sc := defScope s_are_strings) (by decide +kernel)) (fun _ _ _ _ _ => ⟨_, (mg_name 2 sc_are_strings.nd)⟩) (fun _ _ _ _ _ => ⟨_, mts_nil⟩) (fun _ _ _ _ _ => ⟨_, (me_isi .str (he := (me_var 2)) (hm := z_isinstance) (hm1 := z_str))⟩))) ma_nil)))))))), m⟩
abbrev s_has_form : Stmt := topS 11
theorem sc_has_form : FnScope n_has_form ["value"] (defScope s_has_form) := ⟨rfl, rfl, rfl, by decide +kernel, rfl, by decide +kernel, by decide +kernel⟩
theorem cl_has_form {F_are_strings : FW} {F0 : FW} {k : Nat} (d : Df K mg "has_form" s_has_form ["value"]) (z_isinstance : mg "isinstance" = none) (z_tuple : mg "tuple" = none) (z_all : mg "all" = none) (z_len : mg "len" = none) (c_are_strings : Cl P w K mg base k "are_strings" 2 F_are_strings) (l_are_strings : ∀ ws Φ, F_are_strings ws Φ → ws.length = 2)
    (m : ∀ ws Φ, F0 ws Φ → w_has_form F_are_strings (startR n_has_form ws) ⟨fun _ => Φ (.d .none), Φ, fun _ => False, fun _ => False, fun _ _ => False⟩) : Cl P w K mg base (k + 1) "has_form" 1 F0 :=
  d.cl (ξ := xi0) sc_has_form fun f cdv A outer s H hr hg => ⟨_, _, (mss_cons (ms_if (mt_w (mw_or (mt_not (mt_val (me_isi .tuple (he := (me_var 0)) (hm := z_isinstance) (hm1 := z_tuple)))) (mw_or (mt_cmp (om_ne hr) (me_callB cm_len z_len (ha := (ma_cons (me_var 0) ma_nil))) me_int) (mw_or1 (mt_not (mt_val (me_callB (cm_all) z_all (ha := (ma_cons (me_fz (ml_lcX [("part", 3)] sc_has_form.nd (mi_seq (me_var 0)) (blkOk_by (own := [("part", 3)]) (N := n_has_form) (sc := defScope s_has_form) (by decide +kernel)) (fun _ _ _ _ _ => ⟨_, (mg_name 3 sc_has_form.nd)⟩) (fun _ _ _ _ _ => ⟨_, mts_nil⟩) (fun _ _ _ _ _ => ⟨_, (me_isi .tuple (he := (me_var 3)) (hm := z_isinstance) (hm1 := z_tuple))⟩))) ma_nil))))))))) (mss_one (ms_ret me_bl)) mss_nil)
      (mss_cons (ms_asg (me_var 0) (mg_tup (mgs_cons (mg_name 1 sc_has_form.nd) (mgs_cons (mg_name 2 sc_has_form.nd) mgs_nil))))
      (mss_one (ms_ret (me_and (me_callD (k := k) c_are_strings hr hg l_are_strings (ma_cons (me_var 1) (ma_cons (me_callB cm_len z_len (ha := (ma_cons (me_var 1) ma_nil))) ma_nil))) (me_one (me_callB (cm_all) z_all (ha := (ma_cons (me_fz (ml_lcX [("door", 4)] sc_has_form.nd (mi_seq (me_var 2)) (blkOk_by (own := [("door", 4)]) (N := n_has_form) (sc := defScope s_has_form) (by decide +kernel)) (fun _ _ _ _ _ => ⟨_, (mg_name 4 sc_has_form.nd)⟩) (fun _ _ _ _ _ => ⟨_, mts_nil⟩) (fun _ _ _ _ _ => ⟨_, (me_callD (k := k) c_are_strings hr hg l_are_strings (ma_cons (me_var 4) (ma_cons me_int ma_nil)))⟩))) ma_nil))))))))), m⟩
abbrev s_validate_rooms : Stmt := topS 12
theorem sc_validate_rooms : FnScope n_validate_rooms ["rooms"] (defScope s_validate_rooms) := ⟨rfl, rfl, rfl, by decide +kernel, rfl, by decide +kernel, by decide +kernel⟩
theorem cl_validate_rooms {F_is_name : FW} {F0 : FX} {k : Nat} (hk : 2 ≤ k) (d : Df K mg "validate_rooms" s_validate_rooms ["rooms"]) (z_enumerate : mg "enumerate" = none) (o_InvalidHall : Oe P w K mg base "InvalidHall" ["reason", "index"]) (c_is_name : Cl P w K mg base k "is_name" 1 F_is_name) (l_is_name : ∀ ws Φ, F_is_name ws Φ → ws.length = 1)
    (m : ∀ ws Φ Θ, F0 ws Φ Θ → w_validate_rooms F_is_name (startR n_validate_rooms ws) ⟨fun _ => Φ (.d .none), Φ, fun _ => False, fun _ => False, fun x _ => Θ x⟩) : Clx P w K mg base (k + 1) "validate_rooms" 1 F0 :=
  d.clx sc_validate_rooms fun f cdv A outer s H E hr hg => ⟨_, _, (mss_one (ms_for (mi_enumA z_enumerate (ha := (ma_cons (me_var 0) ma_nil))) (mg_tup (mgs_cons (mg_name 1 sc_validate_rooms.nd) (mgs_cons (mg_name 2 sc_validate_rooms.nd) mgs_nil))) (mss_one (ms_if (mt_w (mw_or (mt_not (mt_val (me_callD (k := k) c_is_name hr hg l_is_name (ma_cons (me_var 2) ma_nil)))) (mw_or1 (mt_cmp (om_in hr) (me_var 2) (me_slice (me_var 0) mp_none (mp_some (me_var 1))))))) (mss_one (ms_raiseC o_InvalidHall (hr.mono hk) (L2N.takes_of rfl rfl rfl rfl) (ma_cons me_str (ma_cons (me_var 1) ma_nil)))) mss_nil)) (hp := (passes_of rfl)))), m⟩
abbrev s_validate_doors : Stmt := topS 13
theorem sc_validate_doors : FnScope n_validate_doors ["rooms", "doors"] (defScope s_validate_doors) := ⟨rfl, rfl, rfl, by decide +kernel, rfl, by decide +kernel, by decide +kernel⟩
theorem cl_validate_doors {F_is_name : FW} {F0 : FX} {k : Nat} (hk : 2 ≤ k) (d : Df K mg "validate_doors" s_validate_doors ["rooms", "doors"]) (z_enumerate : mg "enumerate" = none) (o_InvalidHall : Oe P w K mg base "InvalidHall" ["reason", "index"]) (c_is_name : Cl P w K mg base k "is_name" 1 F_is_name) (l_is_name : ∀ ws Φ, F_is_name ws Φ → ws.length = 1)
    (m : ∀ ws Φ Θ, F0 ws Φ Θ → w_validate_doors F_is_name (startR n_validate_doors ws) ⟨fun _ => Φ (.d .none), Φ, fun _ => False, fun _ => False, fun x _ => Θ x⟩) : Clx P w K mg base (k + 1) "validate_doors" 2 F0 :=
  d.clx sc_validate_doors fun f cdv A outer s H E hr hg => ⟨_, _, (mss_one (ms_for (mi_enumA z_enumerate (ha := (ma_cons (me_var 1) ma_nil))) (mg_tup (mgs_cons (mg_name 2 sc_validate_doors.nd) (mgs_cons (mg_tup (mgs_cons (mg_name 3 sc_validate_doors.nd) (mgs_cons (mg_name 4 sc_validate_doors.nd) (mgs_cons (mg_name 5 sc_validate_doors.nd) mgs_nil)))) mgs_nil))) (mss_cons (ms_if (mt_w (mw_or (mt_not (mt_val (me_callD (k := k) c_is_name hr hg l_is_name (ma_cons (me_var 3) ma_nil)))) (mw_or1 (mt_cmp (om_in hr) (me_var 3) (me_fz (ml_lcX [("earlier", 6), ("first", 7), ("second", 8)] sc_validate_doors.nd (mi_seq (me_slice (me_var 1) mp_none (mp_some (me_var 2)))) (blkOk_by (own := [("earlier", 6), ("first", 7), ("second", 8)]) (N := n_validate_doors) (sc := defScope s_validate_doors) (by decide +kernel)) (fun _ _ _ _ _ => ⟨_, (mg_tup (mgs_cons (mg_name 6 sc_validate_doors.nd) (mgs_cons (mg_name 7 sc_validate_doors.nd) (mgs_cons (mg_name 8 sc_validate_doors.nd) mgs_nil))))⟩) (fun _ _ _ _ _ => ⟨_, mts_nil⟩) (fun _ _ _ _ _ => ⟨_, (me_var 6)⟩))))))) (mss_one (ms_raiseC o_InvalidHall (hr.mono hk) (L2N.takes_of rfl rfl rfl rfl) (ma_cons me_str (ma_cons (me_var 2) ma_nil)))) mss_nil)
      (mss_one (ms_if (mt_w (mw_or (mt_cmp (om_notin hr) (me_var 4) (me_var 0)) (mw_or (mt_cmp (om_notin hr) (me_var 5) (me_var 0)) (mw_or1 (mt_cmp (om_eq hr) (me_var 4) (me_var 5)))))) (mss_one (ms_raiseC o_InvalidHall (hr.mono hk) (L2N.takes_of rfl rfl rfl rfl) (ma_cons me_str (ma_cons (me_var 2) ma_nil)))) mss_nil))) (hp := (passes_of rfl)))), m⟩
abbrev s_validate_hall : Stmt := topS 14
theorem sc_validate_hall : FnScope n_validate_hall ["value"] (defScope s_validate_hall) := ⟨rfl, rfl, rfl, by decide +kernel, rfl, by decide +kernel, by decide +kernel⟩
theorem cl_validate_hall {F_validate_rooms : FX} {F_validate_doors : FX} {F_has_form : FW} {F0 : FX} {k : Nat} (hk : 2 ≤ k) (d : Df K mg "validate_hall" s_validate_hall ["value"]) (z_len : mg "len" = none) (g_ROOMS : ∃ t, mg "ROOMS" = some (.int 8 t)) (g_DOORS : ∃ t, mg "DOORS" = some (.int 12 t)) (o_InvalidHall : Oe P w K mg base "InvalidHall" ["reason", "index"]) (c_validate_rooms : Clx P w K mg base k "validate_rooms" 1 F_validate_rooms) (l_validate_rooms : ∀ ws Φ Θ, F_validate_rooms ws Φ Θ → ws.length = 1) (c_validate_doors : Clx P w K mg base k "validate_doors" 2 F_validate_doors) (l_validate_doors : ∀ ws Φ Θ, F_validate_doors ws Φ Θ → ws.length = 2) (c_has_form : Cl P w K mg base k "has_form" 1 F_has_form) (l_has_form : ∀ ws Φ, F_has_form ws Φ → ws.length = 1)
    (m : ∀ ws Φ Θ, F0 ws Φ Θ → w_validate_hall F_validate_rooms F_validate_doors F_has_form (startR n_validate_hall ws) ⟨fun _ => Φ (.d .none), Φ, fun _ => False, fun _ => False, fun x _ => Θ x⟩) : Clx P w K mg base (k + 1) "validate_hall" 1 F0 :=
  d.clx sc_validate_hall fun f cdv A outer s H E hr hg => ⟨_, _, (mss_cons (ms_if (mt_not (mt_val (me_callD (k := k) c_has_form hr hg l_has_form (ma_cons (me_var 0) ma_nil)))) (mss_one (ms_raiseC o_InvalidHall (hr.mono hk) (L2N.takes_of rfl rfl rfl rfl) (ma_cons me_str (ma_cons me_int ma_nil)))) mss_nil)
      (mss_cons (ms_asg (me_var 0) (mg_tup (mgs_cons (mg_name 1 sc_validate_hall.nd) (mgs_cons (mg_name 2 sc_validate_hall.nd) mgs_nil))))
      (mss_cons (ms_if (mt_not (mt_chain om_le om_le me_int (me_callB cm_len z_len (ha := (ma_cons (me_var 1) ma_nil))) (me_gi g_ROOMS))) (mss_one (ms_raiseC o_InvalidHall (hr.mono hk) (L2N.takes_of rfl rfl rfl rfl) (ma_cons me_str (ma_cons me_int ma_nil)))) mss_nil)
      (mss_cons (ms_if (mt_cmp om_gt (me_callB cm_len z_len (ha := (ma_cons (me_var 2) ma_nil))) (me_gi g_DOORS)) (mss_one (ms_raiseC o_InvalidHall (hr.mono hk) (L2N.takes_of rfl rfl rfl rfl) (ma_cons me_str (ma_cons me_int ma_nil)))) mss_nil)
      (mss_cons (msx_expr (mex_callX (k := k) c_validate_rooms (L2N.takes_of rfl rfl rfl rfl) hr hg l_validate_rooms (max_a (ma_cons (me_var 1) ma_nil))))
      (mss_cons (msx_expr (mex_callX (k := k) c_validate_doors (L2N.takes_of rfl rfl rfl rfl) hr hg l_validate_doors (max_a (ma_cons (me_var 1) (ma_cons (me_var 2) ma_nil)))))
      (mss_one (ms_ret me_bl)))))))), m⟩
abbrev s_need_room : Stmt := topS 15
theorem sc_need_room : FnScope n_need_room ["hall", "room"] (defScope s_need_room) := ⟨rfl, rfl, rfl, by decide +kernel, rfl, by decide +kernel, by decide +kernel⟩
theorem cl_need_room {F0 : FX} {k : Nat} (hk : 2 ≤ k) (d : Df K mg "need_room" s_need_room ["hall", "room"]) (o_UnknownRoom : Oe P w K mg base "UnknownRoom" ["name"])
    (m : ∀ ws Φ Θ, F0 ws Φ Θ → w_need_room (startR n_need_room ws) ⟨fun _ => Φ (.d .none), Φ, fun _ => False, fun _ => False, fun x _ => Θ x⟩) : Clx P w K mg base (k + 1) "need_room" 2 F0 :=
  d.clx sc_need_room fun f cdv A outer s H E hr hg => ⟨_, _, (mss_one (ms_if (mt_cmp (om_notin hr) (me_var 1) (me_ix (me_var 0) me_int)) (mss_one (ms_raiseC o_UnknownRoom (hr.mono hk) (L2N.takes_of rfl rfl rfl rfl) (ma_cons (me_var 1) ma_nil))) mss_nil)), m⟩
abbrev s_glue : Stmt := topS 16
theorem sc_glue : FnScope n_glue ["hall", "one", "other"] (defScope s_glue) := ⟨rfl, rfl, rfl, by decide +kernel, rfl, by decide +kernel, by decide +kernel⟩
theorem cl_glue {F_need_room : FX} {F0 : FX} {k : Nat} (hk : 2 ≤ k) (d : Df K mg "glue" s_glue ["hall", "one", "other"]) (z_enumerate : mg "enumerate" = none) (z_tuple : mg "tuple" = none) (o_InvalidHall : Oe P w K mg base "InvalidHall" ["reason", "index"]) (c_need_room : Clx P w K mg base k "need_room" 2 F_need_room) (l_need_room : ∀ ws Φ Θ, F_need_room ws Φ Θ → ws.length = 2)
    (m : ∀ ws Φ Θ, F0 ws Φ Θ → w_glue F_need_room (startR n_glue ws) ⟨fun _ => Φ (.d .none), Φ, fun _ => False, fun _ => False, fun x _ => Θ x⟩) : Clx P w K mg base (k + 1) "glue" 3 F0 :=
  d.clx sc_glue fun f cdv A outer s H E hr hg => ⟨_, _, (mss_cons (msx_expr (mex_callX (k := k) c_need_room (L2N.takes_of rfl rfl rfl rfl) hr hg l_need_room (max_a (ma_cons (me_var 0) (ma_cons (me_var 1) ma_nil)))))
      (mss_cons (msx_expr (mex_callX (k := k) c_need_room (L2N.takes_of rfl rfl rfl rfl) hr hg l_need_room (max_a (ma_cons (me_var 0) (ma_cons (me_var 2) ma_nil)))))
      (mss_cons (ms_asg (me_var 0) (mg_tup (mgs_cons (mg_name 3 sc_glue.nd) (mgs_cons (mg_name 4 sc_glue.nd) mgs_nil))))
      (mss_cons (ms_setO 5 sc_glue.nd (ml_lst ma_nil))
      (mss_cons (ms_for (mi_enumA z_enumerate (ha := (ma_cons (me_var 4) ma_nil))) (mg_tup (mgs_cons (mg_name 6 sc_glue.nd) (mgs_cons (mg_tup (mgs_cons (mg_name 7 sc_glue.nd) (mgs_cons (mg_name 8 sc_glue.nd) (mgs_cons (mg_name 9 sc_glue.nd) mgs_nil)))) mgs_nil))) (mss_cons (ms_set 10 sc_glue.nd (me_callT cm_tuple z_tuple (ha := (ma_cons (me_fz (ml_lcX [("end", 11)] sc_glue.nd (mi_seq (me_tup (ma_cons (me_var 8) (ma_cons (me_var 9) ma_nil)))) (blkOk_by (own := [("end", 11)]) (N := n_glue) (sc := defScope s_glue) (by decide +kernel)) (fun _ _ _ _ _ => ⟨_, (mg_name 11 sc_glue.nd)⟩) (fun _ _ _ _ _ => ⟨_, mts_nil⟩) (fun _ _ _ _ _ => ⟨_, (me_if (mt_cmp (om_eq hr) (me_var 11) (me_var 2)) (me_var 1) (me_var 11))⟩))) ma_nil))))
      (mss_cons (ms_if (mt_cmp (om_eq hr) (me_ix (me_var 10) me_int) (me_ix (me_var 10) me_int)) (mss_one (ms_raiseC o_InvalidHall (hr.mono hk) (L2N.takes_of rfl rfl rfl rfl) (ma_cons me_str (ma_cons (me_var 6) ma_nil)))) mss_nil)
      (mss_one (ms_app 5 (me_op om_add (me_tup (ma_cons (me_var 7) ma_nil)) (me_var 10)))))) (hp := (passes_of rfl)))
      (mss_cons (ms_if (mt_cmp (om_eq hr) (me_var 1) (me_var 2)) (mss_one (ms_raiseC o_InvalidHall (hr.mono hk) (L2N.takes_of rfl rfl rfl rfl) (ma_cons me_str (ma_cons me_int ma_nil)))) mss_nil)
      (mss_one (ms_ret (me_tup (ma_cons (me_callT cm_tuple z_tuple (ha := (ma_cons (me_fz (ml_lcX [("room", 12)] sc_glue.nd (mi_seq (me_var 3)) (blkOk_by (own := [("room", 12)]) (N := n_glue) (sc := defScope s_glue) (by decide +kernel)) (fun _ _ _ _ _ => ⟨_, (mg_name 12 sc_glue.nd)⟩) (fun _ _ _ _ _ => ⟨_, (mts_one (mt_cmp (om_ne hr) (me_var 12) (me_var 2)))⟩) (fun _ _ _ _ _ => ⟨_, (me_var 12)⟩))) ma_nil))) (ma_cons (me_lend 5 (me_callT cm_tuple z_tuple (ha := (ma_cons (me_var 5) ma_nil)))) ma_nil))))))))))), m⟩
abbrev s_glue_state : Stmt := topS 18
theorem sc_glue_state : FnScope n_glue_state ["state", "one", "other"] (defScope s_glue_state) := ⟨rfl, rfl, rfl, by decide +kernel, rfl, by decide +kernel, by decide +kernel⟩
theorem cl_glue_state {F0 : FW} {k : Nat} (d : Df K mg "glue_state" s_glue_state ["state", "one", "other"]) (z_tuple : mg "tuple" = none)
    (m : ∀ ws Φ, F0 ws Φ → w_glue_state (startR n_glue_state ws) ⟨fun _ => Φ (.d .none), Φ, fun _ => False, fun _ => False, fun _ _ => False⟩) : Cl P w K mg base (k + 1) "glue_state" 3 F0 :=
  d.cl (ξ := xi0) sc_glue_state fun f cdv A outer s H hr hg => ⟨_, _, (mss_cons (ms_asg (me_var 0) (mg_tup (mgs_cons (mg_name 3 sc_glue_state.nd) (mgs_cons (mg_name 4 sc_glue_state.nd) mgs_nil))))
      (mss_cons (ms_setN 5 sc_glue_state.nd (mn_disp1 (me_var 2) (me_var 1)))
      (mss_cons (ms_set 6 sc_glue_state.nd (me_callT cm_tuple z_tuple (ha := (ma_cons (me_fz (ml_lend 5 (ml_lcX [("face", 7)] sc_glue_state.nd (mi_seq (me_var 3)) (blkOk_by (own := [("face", 7)]) (N := n_glue_state) (sc := defScope s_glue_state) (by decide +kernel)) (fun _ _ _ _ _ => ⟨_, (mg_name 7 sc_glue_state.nd)⟩) (fun _ _ _ _ _ => ⟨_, mts_nil⟩) (fun _ _ _ _ _ => ⟨_, (me_dget2 hr (me_var 5) (me_var 7) (me_var 7))⟩)))) ma_nil))))
      (mss_one (ms_ret (me_tup (ma_cons (me_var 6) (ma_cons (me_callT cm_tuple z_tuple (ha := (ma_cons (me_fz (ml_lend 5 (ml_lcX [("walker", 8), ("room", 9)] sc_glue_state.nd (mi_seq (me_var 4)) (blkOk_by (own := [("walker", 8), ("room", 9)]) (N := n_glue_state) (sc := defScope s_glue_state) (by decide +kernel)) (fun _ _ _ _ _ => ⟨_, (mg_tup (mgs_cons (mg_name 8 sc_glue_state.nd) (mgs_cons (mg_name 9 sc_glue_state.nd) mgs_nil)))⟩) (fun _ _ _ _ _ => ⟨_, mts_nil⟩) (fun _ _ _ _ _ => ⟨_, (me_tup (ma_cons (me_var 8) (ma_cons (me_dget2 hr (me_var 5) (me_var 9) (me_var 9)) ma_nil)))⟩)))) ma_nil))) ma_nil)))))))), m⟩
abbrev s_law_box : Stmt := topS 20
theorem sc_law_box : FnScope n_law_box ["script", "k"] (defScope s_law_box) := ⟨rfl, rfl, rfl, by decide +kernel, rfl, by decide +kernel, by decide +kernel⟩
theorem cl_law_box {F0 : FW} {k : Nat} (d : Df K mg "_law_box" s_law_box ["script", "k"]) (z_len : mg "len" = none) (z_int : mg "int" = none)
    (m : ∀ ws Φ, F0 ws Φ → w_law_box (startR n_law_box ws) ⟨fun _ => Φ (.d .none), Φ, fun _ => False, fun _ => False, fun _ _ => False⟩) : Cl P w K mg base (k + 1) "_law_box" 2 F0 :=
  d.cl (ξ := xi0) sc_law_box fun f cdv A outer s H hr hg => ⟨_, _, (mss_cons (ms_set 2 sc_law_box.nd (me_op om_add (me_op om_mul me_int (me_var 1)) me_int))
      (mss_cons (ms_if (mt_cmp om_lt (me_var 1) (me_callB cm_len z_len (ha := (ma_cons (me_var 0) ma_nil)))) (mss_one (ms_set 2 sc_law_box.nd (me_ix (me_var 0) (me_var 1)))) (mss_one (ms_if (mt_cmp om_gt (me_callB cm_len z_len (ha := (ma_cons (me_var 0) ma_nil))) me_int) (mss_one (ms_set 2 sc_law_box.nd (me_op om_add (me_var 2) (me_op om_mul (me_op om_mod (me_ix (me_var 0) (me_op om_mod (me_var 1) (me_callB cm_len z_len (ha := (ma_cons (me_var 0) ma_nil))))) me_int) me_int)))) mss_nil)))
      (mss_cons (ms_set 3 sc_law_box.nd (me_op om_add (me_op om_mod (me_op om_add (me_op om_mul (me_op om_mod (me_var 2) me_int) me_int) (me_op om_mul me_int (me_var 1))) me_int) me_int))
      (mss_one (ms_retB (ml_lst (ma_cons (me_ix (me_fz (ml_lst (ma_cons me_int (ma_cons (me_var 2) ma_nil)))) (me_callT cm_int z_int (ha := (ma_cons (me_cmp om_ge (me_var 2) (me_op om_pow me_int me_int)) ma_nil)))) (ma_cons (me_var 3) (ma_cons me_int ma_nil))))))))), m⟩
abbrev s_law_take : Stmt := topS 21
theorem sc_law_take : FnScope n_law_take ["box", "many"] (defScope s_law_take) := ⟨rfl, rfl, rfl, by decide +kernel, rfl, by decide +kernel, by decide +kernel⟩
theorem cl_law_take {F0 : FW} {k : Nat} (d : Df K mg "_law_take" s_law_take ["box", "many"])
    (m : ∀ ws Φ, F0 ws Φ → w_law_take (startR n_law_take ws) ⟨fun _ => Φ (.d .none), Φ, fun _ => False, fun _ => False, fun _ _ => False⟩) : Cl P w K mg base (k + 1) "_law_take" 2 F0 :=
  d.cl (ξ := xi0) sc_law_take fun f cdv A outer s H hr hg => ⟨_, _, (mss_cons (ms_if (mt_cmp om_gt (me_ix (me_var 0) me_int) me_int) (mss_cons (ms_set 2 sc_law_take.nd (me_op om_mod (me_ix (me_var 0) me_int) (me_var 1)))
      (mss_cons (ms_setB 0 (me_op om_div (me_ix (me_var 0) me_int) (me_var 1)) me_int)
      (mss_one (ms_ret (me_var 2))))) mss_nil)
      (mss_cons (ms_setB 0 (me_op om_add (me_ix (me_var 0) me_int) me_int) me_int)
      (mss_cons (ms_set 3 sc_law_take.nd (me_op om_mod (me_op om_mul (me_op om_add (me_ix (me_var 0) me_int) (me_op om_mul me_int (me_ix (me_var 0) me_int))) me_int) me_int))
      (mss_cons (ms_setB 0 (me_op om_add (me_op om_mod (me_op om_add (me_op om_mul (me_var 3) me_int) me_int) me_int) me_int) me_int)
      (mss_one (ms_ret (me_op om_mod (me_op om_div (me_op om_add (me_op om_mul (me_var 3) me_int) (me_ix (me_var 0) me_int)) me_int) (me_var 1)))))))), m⟩
abbrev s_law_names : Stmt := topS 22
theorem sc_law_names : FnScope n_law_names ["box", "many"] (defScope s_law_names) := ⟨rfl, rfl, rfl, by decide +kernel, rfl, by decide +kernel, by decide +kernel⟩
theorem cl_law_names {F_law_take : FW} {F0 : FW} {k : Nat} (d : Df K mg "_law_names" s_law_names ["box", "many"]) (z_range : mg "range" = none) (z_int : mg "int" = none) (z_len : mg "len" = none) (c_law_take : Cl P w K mg base k "_law_take" 2 F_law_take) (l_law_take : ∀ ws Φ, F_law_take ws Φ → ws.length = 2)
    (m : ∀ ws Φ, F0 ws Φ → w_law_names F_law_take (startR n_law_names ws) ⟨fun _ => Φ (.d .none), Φ, fun _ => False, fun _ => False, fun _ _ => False⟩) : Cl P w K mg base (k + 1) "_law_names" 2 F0 :=
  d.cl (ξ := xi0) sc_law_names fun f cdv A outer s H hr hg => ⟨_, _, (mss_cons (ms_parT (is := [2, 3]) (mao_cons me_str (mao_cons (me_fz (ml_lst (ma_cons me_str (ma_cons me_str (ma_cons me_str (ma_cons me_str (ma_cons me_str (ma_cons me_str (ma_cons me_str (ma_cons me_str ma_nil)))))))))) mao_nil)) (pgs_cons (mg_name 2 sc_law_names.nd).pg (pgs_cons (mg_name 3 sc_law_names.nd).pg pgs_nil)))
      (mss_cons (ms_set 4 sc_law_names.nd (me_join (me_fz (ml_lcX [("k", 9)] sc_law_names.nd (mi_range1 z_range (ha := (ma_cons (me_callD (k := k) c_law_take hr hg l_law_take (ma_cons (me_var 0) (ma_cons me_int ma_nil))) ma_nil))) (blkOk_by (own := [("k", 9)]) (N := n_law_names) (sc := defScope s_law_names) (by decide +kernel)) (fun _ _ _ _ _ => ⟨_, (mg_name 9 sc_law_names.nd)⟩) (fun _ _ _ _ _ => ⟨_, mts_nil⟩) (fun _ _ _ _ _ => ⟨_, (me_ix (me_var 2) (me_callD (k := k) c_law_take hr hg l_law_take (ma_cons (me_var 0) (ma_cons me_int ma_nil))))⟩)))))
      (mss_cons (ms_set 4 sc_law_names.nd (me_ix (me_fz (ml_lst (ma_cons (me_var 4) (ma_cons me_str ma_nil)))) (me_callT cm_int z_int (ha := (ma_cons (me_cmp (om_eq hr) (me_callD (k := k) c_law_take hr hg l_law_take (ma_cons (me_var 0) (ma_cons me_int ma_nil))) me_int) ma_nil)))))
      (mss_cons (ms_par3 5 6 7 sc_law_names.nd (mao_cons (me_callD (k := k) c_law_take hr hg l_law_take (ma_cons (me_var 0) (ma_cons (me_op om_add (me_callB cm_len z_len (ha := (ma_cons (me_var 4) ma_nil))) me_int) ma_nil))) (mao_cons (me_callD (k := k) c_law_take hr hg l_law_take (ma_cons (me_var 0) (ma_cons me_int ma_nil))) (mao_cons (me_ix (me_fz (ml_lst (ma_cons me_int (ma_cons me_int (ma_cons me_int (ma_cons me_int ma_nil)))))) (me_callD (k := k) c_law_take hr hg l_law_take (ma_cons (me_var 0) (ma_cons me_int ma_nil)))) mao_nil))))
      (mss_cons (ms_setO 8 sc_law_names.nd (ml_lst ma_nil))
      (mss_cons (ms_for (mi_range1 z_range (ha := (ma_cons (me_var 1) ma_nil))) (mg_name 9 sc_law_names.nd) (mss_cons (ms_set 10 sc_law_names.nd (me_ix (me_var 2) (me_op om_mod (me_op om_add (me_var 6) (me_op om_mul (me_var 7) (me_var 9))) me_int)))
      (mss_one (ms_app 8 (me_op om_add (me_op om_add (me_slice (me_var 4) mp_none (mp_some (me_var 5))) (me_var 10)) (me_slice (me_var 4) (mp_some (me_var 5)) mp_none))))))
      (mss_cons (ms_par2 11 12 sc_law_names.nd (mao_cons (me_callD (k := k) c_law_take hr hg l_law_take (ma_cons (me_var 0) (ma_cons (me_var 1) ma_nil))) (mao_cons (me_ix (me_var 3) (me_callD (k := k) c_law_take hr hg l_law_take (ma_cons (me_var 0) (ma_cons me_int ma_nil)))) mao_nil)))
      (mss_cons (ms_if (mt_w (mw_and (mt_cmp (om_eq hr) (me_callD (k := k) c_law_take hr hg l_law_take (ma_cons (me_var 0) (ma_cons me_int ma_nil))) me_int) (mw_and1 (mt_lend 8 (mt_cmp (om_notin hr) (me_var 12) (me_var 8)))))) (mss_one (ms_setI 8 (me_var 12) (me_var 11))) mss_nil)
      (mss_one (ms_frz 8 (ms_ret (me_var 8)))))))))))), m⟩
abbrev s_law_hall : Stmt := topS 23
theorem sc_law_hall : FnScope n_law_hall ["box", "rooms", "doors"] (defScope s_law_hall) := ⟨rfl, rfl, rfl, by decide +kernel, rfl, by decide +kernel, by decide +kernel⟩
theorem cl_law_hall {F_law_take : FW} {F_law_names : FW} {F0 : FW} {k : Nat} (d : Df K mg "_law_hall" s_law_hall ["box", "rooms", "doors"]) (z_len : mg "len" = none) (z_int : mg "int" = none) (z_max : mg "max" = none) (z_range : mg "range" = none) (z_tuple : mg "tuple" = none) (c_law_take : Cl P w K mg base k "_law_take" 2 F_law_take) (l_law_take : ∀ ws Φ, F_law_take ws Φ → ws.length = 2) (c_law_names : Cl P w K mg base k "_law_names" 2 F_law_names) (l_law_names : ∀ ws Φ, F_law_names ws Φ → ws.length = 2)
    (m : ∀ ws Φ, F0 ws Φ → w_law_hall F_law_take F_law_names (startR n_law_hall ws) ⟨fun _ => Φ (.d .none), Φ, fun _ => False, fun _ => False, fun _ _ => False⟩) : Cl P w K mg base (k + 1) "_law_hall" 3 F0 :=
  d.cl (ξ := xi0) sc_law_hall fun f cdv A outer s H hr hg => ⟨_, _, (mss_cons (ms_parT (is := [3, 4]) (mao_cons (me_callD (k := k) c_law_names hr hg l_law_names (ma_cons (me_var 0) (ma_cons (me_op om_add me_int (me_callD (k := k) c_law_take hr hg l_law_take (ma_cons (me_var 0) (ma_cons (me_var 1) ma_nil)))) ma_nil))) (mao_consN (mn_l (ml_lst ma_nil)) mao_nil)) (pgs_cons (mg_name 3 sc_law_hall.nd).pg (pgs_cons (mg_name 4 sc_law_hall.nd).pg pgs_nil)))
      (mss_cons (ms_set 5 sc_law_hall.nd (me_op om_mul (me_callD (k := k) c_law_take hr hg l_law_take (ma_cons (me_var 0) (ma_cons (me_op om_add (me_var 2) me_int) ma_nil))) (me_callT cm_int z_int (ha := (ma_cons (me_cmp om_gt (me_callB cm_len z_len (ha := (ma_cons (me_var 3) ma_nil))) me_int) ma_nil)))))
      (mss_cons (ms_par2 6 7 sc_law_hall.nd (mao_cons (me_callD (k := k) c_law_names hr hg l_law_names (ma_cons (me_var 0) (ma_cons (me_callB (cm_max2) z_max (ha := (ma_cons me_int (ma_cons (me_var 5) ma_nil)))) ma_nil))) (mao_cons (me_ix (me_var 3) me_int) mao_nil)))
      (mss_cons (ms_if (mt_cmp (om_eq hr) (me_callD (k := k) c_law_take hr hg l_law_take (ma_cons (me_var 0) (ma_cons me_int ma_nil))) me_int) (mss_one (ms_set 6 sc_law_hall.nd (me_op om_add (me_var 3) (me_fz (ml_lcX [("title", 12)] sc_law_hall.nd (mi_seq (me_var 6)) (blkOk_by (own := [("title", 12)]) (N := n_law_hall) (sc := defScope s_law_hall) (by decide +kernel)) (fun _ _ _ _ _ => ⟨_, (mg_name 12 sc_law_hall.nd)⟩) (fun _ _ _ _ _ => ⟨_, (mts_one (mt_cmp (om_notin hr) (me_var 12) (me_var 3)))⟩) (fun _ _ _ _ _ => ⟨_, (me_var 12)⟩)))))) mss_nil)
      (mss_cons (ms_for (mi_range1 z_range (ha := (ma_cons (me_var 5) ma_nil))) (mg_name 8 sc_law_hall.nd) (mss_cons (ms_set 9 sc_law_hall.nd (me_ix (me_fz (ml_lst (ma_cons (me_var 7) (ma_cons (me_ix (me_var 3) (me_callD (k := k) c_law_take hr hg l_law_take (ma_cons (me_var 0) (ma_cons (me_callB cm_len z_len (ha := (ma_cons (me_var 3) ma_nil))) ma_nil)))) ma_nil)))) (me_callD (k := k) c_law_take hr hg l_law_take (ma_cons (me_var 0) (ma_cons me_int ma_nil)))))
      (mss_cons (ms_set 10 sc_law_hall.nd (me_idx (me_var 3) (me_var 9)))
      (mss_cons (ms_set 11 sc_law_hall.nd (me_ix (me_var 3) (me_op om_mod (me_op om_add (me_op om_add (me_var 10) me_int) (me_callD (k := k) c_law_take hr hg l_law_take (ma_cons (me_var 0) (ma_cons (me_op om_sub (me_callB cm_len z_len (ha := (ma_cons (me_var 3) ma_nil))) me_int) ma_nil)))) (me_callB cm_len z_len (ha := (ma_cons (me_var 3) ma_nil))))))
      (mss_cons (ms_app 4 (me_tup (ma_cons (me_ix (me_var 6) (me_var 8)) (ma_cons (me_var 9) (ma_cons (me_var 11) ma_nil)))))
      (mss_one (ms_set 7 sc_law_hall.nd (me_var 11))))))))
      (mss_one (ms_ret (me_tup (ma_cons (me_callT cm_tuple z_tuple (ha := (ma_cons (me_var 3) ma_nil))) (ma_cons (me_lend 4 (me_callT cm_tuple z_tuple (ha := (ma_cons (me_var 4) ma_nil)))) ma_nil)))))))))), m⟩
abbrev s_law_state : Stmt := topS 24
theorem sc_law_state : FnScope n_law_state ["box", "hall", "walkers"] (defScope s_law_state) := ⟨rfl, rfl, rfl, by decide +kernel, rfl, by decide +kernel, by decide +kernel⟩
theorem cl_law_state {F_law_take : FW} {F_law_names : FW} {F0 : FW} {k : Nat} (d : Df K mg "_law_state" s_law_state ["box", "hall", "walkers"]) (z_tuple : mg "tuple" = none) (z_list : mg "list" = none) (z_max : mg "max" = none) (z_sorted : mg "sorted" = none) (z_len : mg "len" = none) (c_law_take : Cl P w K mg base k "_law_take" 2 F_law_take) (l_law_take : ∀ ws Φ, F_law_take ws Φ → ws.length = 2) (c_law_names : Cl P w K mg base k "_law_names" 2 F_law_names) (l_law_names : ∀ ws Φ, F_law_names ws Φ → ws.length = 2)
    (m : ∀ ws Φ, F0 ws Φ → w_law_state F_law_take F_law_names (startR n_law_state ws) ⟨fun _ => Φ (.d .none), Φ, fun _ => False, fun _ => False, fun _ _ => False⟩) : Cl P w K mg base (k + 1) "_law_state" 3 F0 :=
  d.cl (ξ := xi0) sc_law_state fun f cdv A outer s H hr hg => ⟨_, _, (mss_cons (ms_asg (me_var 1) (mg_tup (mgs_cons (mg_name 3 sc_law_state.nd) (mgs_cons (mg_name 4 sc_law_state.nd) mgs_nil))))
      (mss_cons (ms_set 5 sc_law_state.nd (me_callT cm_tuple z_tuple (ha := (ma_cons (me_fz (ml_lcX [("door", 9)] sc_law_state.nd (mi_seq (me_var 4)) (blkOk_by (own := [("door", 9)]) (N := n_law_state) (sc := defScope s_law_state) (by decide +kernel)) (fun _ _ _ _ _ => ⟨_, (mg_name 9 sc_law_state.nd)⟩) (fun _ _ _ _ _ => ⟨_, mts_nil⟩) (fun _ _ _ _ _ => ⟨_, (me_ix (me_var 9) (me_op om_add me_int (me_callD (k := k) c_law_take hr hg l_law_take (ma_cons (me_var 0) (ma_cons me_int ma_nil)))))⟩))) ma_nil))))
      (mss_cons (ms_set 6 sc_law_state.nd (me_fz (ml_lst (ma_cons (me_callD (k := k) c_law_names hr hg l_law_names (ma_cons (me_var 0) (ma_cons me_int ma_nil))) (ma_cons (me_fz (ml_callT (cm_list) z_list (ha := (ma_cons (me_var 3) ma_nil)))) (ma_cons (me_fz (ml_lcX [("door", 9)] sc_law_state.nd (mi_seq (me_var 4)) (blkOk_by (own := [("door", 9)]) (N := n_law_state) (sc := defScope s_law_state) (by decide +kernel)) (fun _ _ _ _ _ => ⟨_, (mg_name 9 sc_law_state.nd)⟩) (fun _ _ _ _ _ => ⟨_, mts_nil⟩) (fun _ _ _ _ _ => ⟨_, (me_ix (me_var 9) me_int)⟩))) ma_nil))))))
      (mss_cons (ms_set 7 sc_law_state.nd (me_fz (ml_callB (cm_sortedS) z_sorted (ha := (ma_cons (me_slice (me_ix (me_var 6) (me_callB (cm_max2) z_max (ha := (ma_cons me_int (ma_cons (me_op om_sub (me_callD (k := k) c_law_take hr hg l_law_take (ma_cons (me_var 0) (ma_cons me_int ma_nil))) me_int) ma_nil))))) mp_none (mp_some (me_callD (k := k) c_law_take hr hg l_law_take (ma_cons (me_var 0) (ma_cons (me_op om_add (me_var 2) me_int) ma_nil))))) ma_nil)))))
      (mss_cons (ms_set 8 sc_law_state.nd (me_callT cm_tuple z_tuple (ha := (ma_cons (me_fz (ml_lcX [("name", 10)] sc_law_state.nd (mi_seq (me_var 7)) (blkOk_by (own := [("name", 10)]) (N := n_law_state) (sc := defScope s_law_state) (by decide +kernel)) (fun _ _ _ _ _ => ⟨_, (mg_name 10 sc_law_state.nd)⟩) (fun _ _ _ _ _ => ⟨_, mts_nil⟩) (fun _ _ _ _ _ => ⟨_, (me_tup (ma_cons (me_var 10) (ma_cons (me_ix (me_var 3) (me_callD (k := k) c_law_take hr hg l_law_take (ma_cons (me_var 0) (ma_cons (me_callB cm_len z_len (ha := (ma_cons (me_var 3) ma_nil))) ma_nil)))) ma_nil)))⟩))) ma_nil))))
      (mss_one (ms_ret (me_tup (ma_cons (me_var 5) (ma_cons (me_var 8) ma_nil)))))))))), m⟩
abbrev s_law_alike : Stmt := topS 25
theorem sc_law_alike : FnScope n_law_alike ["found", "due"] (defScope s_law_alike) := ⟨rfl, rfl, rfl, by decide +kernel, rfl, by decide +kernel, by decide +kernel⟩
theorem cl_law_alike {F_law_alike : FW} {F0 : FW} {k : Nat} (d : Df K mg "_law_alike" s_law_alike ["found", "due"]) (z_isinstance : mg "isinstance" = none) (z_tuple : mg "tuple" = none) (z_list : mg "list" = none) (z_zip : mg "zip" = none) (z_all : mg "all" = none) (z_len : mg "len" = none) (z_str : mg "str" = none) (z_bool : mg "bool" = none) (z_dict : mg "dict" = none) (c_law_alike : Cl P w K mg base k "_law_alike" 2 F_law_alike) (l_law_alike : ∀ ws Φ, F_law_alike ws Φ → ws.length = 2)
    (m : ∀ ws Φ, F0 ws Φ → w_law_alike F_law_alike (startR n_law_alike ws) ⟨fun _ => Φ (.d .none), Φ, fun _ => False, fun _ => False, fun _ _ => False⟩) : Cl P w K mg base (k + 1) "_law_alike" 2 F0 :=
  d.cl (ξ := xi0) sc_law_alike fun f cdv A outer s H hr hg => ⟨_, _, (mss_cons (ms_if (mt_val (me_isi2 .tuple .list (he := (me_var 1)) (hm := z_isinstance) (hm1 := z_tuple) (hm2 := z_list))) (mss_cons (ms_if (mt_w (mw_or (mt_cmp (om_ne hr) (me_isi .tuple (he := (me_var 0)) (hm := z_isinstance) (hm1 := z_tuple)) (me_isi .tuple (he := (me_var 1)) (hm := z_isinstance) (hm1 := z_tuple))) (mw_or1 (mt_cmp (om_ne hr) (me_isi .list (he := (me_var 0)) (hm := z_isinstance) (hm1 := z_list)) (me_isi .list (he := (me_var 1)) (hm := z_isinstance) (hm1 := z_list)))))) (mss_one (ms_ret me_bl)) mss_nil)
      (mss_one (ms_ret (me_and (me_cmp (om_eq hr) (me_callB cm_len z_len (ha := (ma_cons (me_var 0) ma_nil))) (me_callB cm_len z_len (ha := (ma_cons (me_var 1) ma_nil)))) (me_one (me_callB (cm_all) z_all (ha := (ma_cons (me_fz (ml_lcX [("one", 2), ("other", 3)] sc_law_alike.nd (mi_zip z_zip (ha := (ma_cons (me_var 0) (ma_cons (me_var 1) ma_nil)))) (blkOk_by (own := [("one", 2), ("other", 3)]) (N := n_law_alike) (sc := defScope s_law_alike) (by decide +kernel)) (fun _ _ _ _ _ => ⟨_, (mg_tup (mgs_cons (mg_name 2 sc_law_alike.nd) (mgs_cons (mg_name 3 sc_law_alike.nd) mgs_nil)))⟩) (fun _ _ _ _ _ => ⟨_, mts_nil⟩) (fun _ _ _ _ _ => ⟨_, (me_callD (k := k) c_law_alike hr hg l_law_alike (ma_cons (me_var 2) (ma_cons (me_var 3) ma_nil)))⟩))) ma_nil)))))))) mss_nil)
      (mss_cons (ms_if (mt_w (mw_or (mt_cmp (om_ne hr) (me_isi .bool (he := (me_var 0)) (hm := z_isinstance) (hm1 := z_bool)) (me_isi .bool (he := (me_var 1)) (hm := z_isinstance) (hm1 := z_bool))) (mw_or1 (mt_cmp (om_ne hr) (me_isi .str (he := (me_var 0)) (hm := z_isinstance) (hm1 := z_str)) (me_isi .str (he := (me_var 1)) (hm := z_isinstance) (hm1 := z_str)))))) (mss_one (ms_ret me_bl)) mss_nil)
      (mss_one (ms_ret (me_and (me_not (me_isi3 .tuple .list .dict (he := (me_var 0)) (hm := z_isinstance) (hm1 := z_tuple) (hm2 := z_list) (hm3 := z_dict))) (me_one (me_cmp (om_eq hr) (me_var 0) (me_var 1)))))))), m⟩
abbrev s_law_due : Stmt := topS 26
theorem sc_law_due : FnScope n_law_due ["hall", "one", "other"] (defScope s_law_due) := ⟨rfl, rfl, rfl, by decide +kernel, rfl, by decide +kernel, by decide +kernel⟩
theorem cl_law_due {F0 : FW} {k : Nat} (d : Df K mg "_law_due" s_law_due ["hall", "one", "other"]) (z_enumerate : mg "enumerate" = none) (z_tuple : mg "tuple" = none)
    (m : ∀ ws Φ, F0 ws Φ → w_law_due (startR n_law_due ws) ⟨fun _ => Φ (.d .none), Φ, fun _ => False, fun _ => False, fun _ _ => False⟩) : Cl P w K mg base (k + 1) "_law_due" 3 F0 :=
  d.cl (ξ := xi0) sc_law_due fun f cdv A outer s H hr hg => ⟨_, _, (mss_cons (ms_for (mi_seq (me_tup (ma_cons (me_var 1) (ma_cons (me_var 2) ma_nil)))) (mg_name 3 sc_law_due.nd) (mss_one (ms_if (mt_cmp (om_notin hr) (me_var 3) (me_ix (me_var 0) me_int)) (mss_one (ms_ret (me_tup (ma_cons me_str (ma_cons (me_var 3) ma_nil))))) mss_nil)))
      (mss_cons (ms_setO 4 sc_law_due.nd (ml_lst ma_nil))
      (mss_cons (ms_for (mi_enumA z_enumerate (ha := (ma_cons (me_ix (me_var 0) me_int) ma_nil))) (mg_tup (mgs_cons (mg_name 5 sc_law_due.nd) (mgs_cons (mg_tup (mgs_cons (mg_name 3 sc_law_due.nd) (mgs_cons (mg_name 6 sc_law_due.nd) (mgs_cons (mg_name 7 sc_law_due.nd) mgs_nil)))) mgs_nil))) (mss_cons (ms_setLc 8 [("end", 9)] sc_law_due.nd (mi_seq (me_tup (ma_cons (me_var 6) (ma_cons (me_var 7) ma_nil)))) (blkOk_by (own := [("end", 9)]) (N := n_law_due) (sc := defScope s_law_due) (by decide +kernel)) (fun _ _ _ _ _ => ⟨_, (mg_name 9 sc_law_due.nd)⟩) (fun _ _ _ _ _ => ⟨_, mts_nil⟩) (fun _ _ _ _ _ => ⟨_, (me_if (mt_cmp (om_eq hr) (me_var 9) (me_var 2)) (me_var 1) (me_var 9))⟩))
      (mss_cons (ms_if (mt_cmp (om_eq hr) (me_ix (me_var 8) me_int) (me_ix (me_var 8) me_int)) (mss_one (ms_ret (me_tup (ma_cons me_str (ma_cons me_str (ma_cons (me_var 5) ma_nil)))))) mss_nil)
      (mss_one (ms_app 4 (me_tup (ma_cons (me_var 3) (ma_cons (me_ix (me_var 8) me_int) (ma_cons (me_ix (me_var 8) me_int) ma_nil)))))))))
      (mss_cons (ms_if (mt_cmp (om_eq hr) (me_var 1) (me_var 2)) (mss_one (ms_ret (me_tup (ma_cons me_str (ma_cons me_str (ma_cons me_int ma_nil)))))) mss_nil)
      (mss_one (ms_ret (me_tup (ma_cons me_str (ma_cons (me_tup (ma_cons (me_callT cm_tuple z_tuple (ha := (ma_cons (me_fz (ml_lcX [("name", 3)] sc_law_due.nd (mi_seq (me_ix (me_var 0) me_int)) (blkOk_by (own := [("name", 3)]) (N := n_law_due) (sc := defScope s_law_due) (by decide +kernel)) (fun _ _ _ _ _ => ⟨_, (mg_name 3 sc_law_due.nd)⟩) (fun _ _ _ _ _ => ⟨_, (mts_one (mt_cmp (om_ne hr) (me_var 3) (me_var 2)))⟩) (fun _ _ _ _ _ => ⟨_, (me_var 3)⟩))) ma_nil))) (ma_cons (me_lend 4 (me_callT cm_tuple z_tuple (ha := (ma_cons (me_var 4) ma_nil)))) ma_nil))) ma_nil))))))))), m⟩
abbrev s_law_told : Stmt := topS 27
theorem sc_law_told : FnScope n_law_told ["hall", "one", "other"] (defScope s_law_told) := ⟨rfl, rfl, rfl, by decide +kernel, rfl, by decide +kernel, by decide +kernel⟩
theorem cl_law_told {F_glue : FX} {F0 : FW} {k : Nat} (d : Df K mg "_law_told" s_law_told ["hall", "one", "other"]) (tab : Tab K mg csX ysX flX subX) {v_UnknownRoom : V} {u_UnknownRoom : Value} (n_UnknownRoom : NmV mg "UnknownRoom" v_UnknownRoom u_UnknownRoom) (bl_UnknownRoom : ∀ x ∈ csX, Below K mg x "UnknownRoom" (subX x "UnknownRoom")) {v_InvalidHall : V} {u_InvalidHall : Value} (n_InvalidHall : NmV mg "InvalidHall" v_InvalidHall u_InvalidHall) (bl_InvalidHall : ∀ x ∈ csX, Below K mg x "InvalidHall" (subX x "InvalidHall")) (c_glue : Clx P w K mg base k "glue" 3 F_glue) (l_glue : ∀ ws Φ Θ, F_glue ws Φ Θ → ws.length = 3)
    (m : ∀ ws Φ, F0 ws Φ → w_law_told F_glue (startR n_law_told ws) ⟨fun _ => Φ (.d .none), Φ, fun _ => False, fun _ => False, fun _ _ => False⟩) : Cl P w K mg base (k + 1) "_law_told" 3 F0 :=
  d.cl (ξ := xiF K mg) sc_law_told fun f cdv A outer s H hr hg => ⟨_, _, (mss_cons (ms_set 3 sc_law_told.nd (me_tup (ma_cons me_str ma_nil)))
      (mss_cons (ms_try takes_no sc_law_told.nd (fun Wx pn xe tk hpp => (mss_one (msx_set 3 sc_law_told.nd (mex_tup (max_cons (mex_e me_str) (max_cons (mex_callX (k := k) c_glue (takesN tk) hr hg l_glue (max_a (ma_cons (me_var 0) (ma_cons (me_var 1) (ma_cons (me_var 2) ma_nil))))) (max_a ma_nil))))))) (HdW.as (i := 4) n_UnknownRoom rfl (by decide) bl_UnknownRoom rfl rfl (fun a oe cls d pn x C hz hf hx hm hc => (mss_one (ms_set 3 sc_law_told.nd (me_tup (ma_cons me_str (ma_cons (me_xf (d := d) 4 tab hz hf hx hm hc) ma_nil)))))) (HdW.as (i := 4) n_InvalidHall rfl (by decide) bl_InvalidHall rfl rfl (fun a oe cls d pn x C hz hf hx hm hc => (mss_one (ms_set 3 sc_law_told.nd (me_tup (ma_cons me_str (ma_cons (me_xf (d := d) 4 tab hz hf hx hm hc) (ma_cons (me_xf (d := d) 4 tab hz hf hx hm hc) ma_nil))))))) HdW.nil)))
      (mss_one (ms_ret (me_var 3))))), m⟩
abbrev s_law_glued : Stmt := topS 28
theorem sc_law_glued : FnScope n_law_glued ["state", "one", "other"] (defScope s_law_glued) := ⟨rfl, rfl, rfl, by decide +kernel, rfl, by decide +kernel, by decide +kernel⟩
theorem cl_law_glued {F0 : FW} {k : Nat} (d : Df K mg "_law_glued" s_law_glued ["state", "one", "other"]) (z_int : mg "int" = none) (z_tuple : mg "tuple" = none)
    (m : ∀ ws Φ, F0 ws Φ → w_law_glued (startR n_law_glued ws) ⟨fun _ => Φ (.d .none), Φ, fun _ => False, fun _ => False, fun _ _ => False⟩) : Cl P w K mg base (k + 1) "_law_glued" 3 F0 :=
  d.cl (ξ := xi0) sc_law_glued fun f cdv A outer s H hr hg => ⟨_, _, (mss_cons (ms_set 3 sc_law_glued.nd (me_callT cm_tuple z_tuple (ha := (ma_cons (me_fz (ml_lcX [("name", 4)] sc_law_glued.nd (mi_seq (me_ix (me_var 0) me_int)) (blkOk_by (own := [("name", 4)]) (N := n_law_glued) (sc := defScope s_law_glued) (by decide +kernel)) (fun _ _ _ _ _ => ⟨_, (mg_name 4 sc_law_glued.nd)⟩) (fun _ _ _ _ _ => ⟨_, mts_nil⟩) (fun _ _ _ _ _ => ⟨_, (me_ix (me_fz (ml_lst (ma_cons (me_var 4) (ma_cons (me_var 1) ma_nil)))) (me_callT cm_int z_int (ha := (ma_cons (me_cmp (om_eq hr) (me_var 4) (me_var 2)) ma_nil))))⟩))) ma_nil))))
      (mss_one (ms_ret (me_tup (ma_cons (me_var 3) (ma_cons (me_callT cm_tuple z_tuple (ha := (ma_cons (me_fz (ml_lcX [("walker", 5), ("name", 4)] sc_law_glued.nd (mi_seq (me_ix (me_var 0) me_int)) (blkOk_by (own := [("walker", 5), ("name", 4)]) (N := n_law_glued) (sc := defScope s_law_glued) (by decide +kernel)) (fun _ _ _ _ _ => ⟨_, (mg_tup (mgs_cons (mg_name 5 sc_law_glued.nd) (mgs_cons (mg_name 4 sc_law_glued.nd) mgs_nil)))⟩) (fun _ _ _ _ _ => ⟨_, mts_nil⟩) (fun _ _ _ _ _ => ⟨_, (me_tup (ma_cons (me_var 5) (ma_cons (me_ix (me_fz (ml_lst (ma_cons (me_var 4) (ma_cons (me_var 1) ma_nil)))) (me_callT cm_int z_int (ha := (ma_cons (me_cmp (om_eq hr) (me_var 4) (me_var 2)) ma_nil)))) ma_nil)))⟩))) ma_nil))) ma_nil)))))), m⟩
abbrev s_law : Stmt := topS 29
theorem sc_law : FnScope n_law ["script"] (defScope s_law) := ⟨rfl, rfl, rfl, by decide +kernel, rfl, by decide +kernel, by decide +kernel⟩
theorem fn_law {F_law_box : FW} {F_law_take : FW} {F_law_hall : FW} {F_law_state : FW} {F_law_due : FW} {F_law_told : FW} {F_law_alike : FW} {F_validate_hall : FW} {F_law_glued : FW} {F_glue_state : FW} {F0 : FW} {k : Nat} {f : Addr} {fd : FuncData} (d : Fun K "law" "law" s_law f fd) (z_len : mg "len" = none) (z_min : mg "min" = none) (z_max : mg "max" = none) (z_range : mg "range" = none) (z_list : mg "list" = none) (z_repr : mg "repr" = none) (c_law_box : Cl P w K mg base k "_law_box" 2 F_law_box) (l_law_box : ∀ ws Φ, F_law_box ws Φ → ws.length = 2) (c_law_take : Cl P w K mg base k "_law_take" 2 F_law_take) (l_law_take : ∀ ws Φ, F_law_take ws Φ → ws.length = 2) (c_law_hall : Cl P w K mg base k "_law_hall" 3 F_law_hall) (l_law_hall : ∀ ws Φ, F_law_hall ws Φ → ws.length = 3) (c_law_state : Cl P w K mg base k "_law_state" 3 F_law_state) (l_law_state : ∀ ws Φ, F_law_state ws Φ → ws.length = 3) (c_law_due : Cl P w K mg base k "_law_due" 3 F_law_due) (l_law_due : ∀ ws Φ, F_law_due ws Φ → ws.length = 3) (c_law_told : Cl P w K mg base k "_law_told" 3 F_law_told) (l_law_told : ∀ ws Φ, F_law_told ws Φ → ws.length = 3) (c_law_alike : Cl P w K mg base k "_law_alike" 2 F_law_alike) (l_law_alike : ∀ ws Φ, F_law_alike ws Φ → ws.length = 2) (c_validate_hall : Cl P w K mg base k "validate_hall" 1 F_validate_hall) (l_validate_hall : ∀ ws Φ, F_validate_hall ws Φ → ws.length = 1) (c_law_glued : Cl P w K mg base k "_law_glued" 3 F_law_glued) (l_law_glued : ∀ ws Φ, F_law_glued ws Φ → ws.length = 3) (c_glue_state : Cl P w K mg base k "glue_state" 3 F_glue_state) (l_glue_state : ∀ ws Φ, F_glue_state ws Φ → ws.length = 3)
    (m : ∀ ws Φ, F0 ws Φ → w_law F_law_box F_law_take F_law_hall F_law_state F_law_due F_law_told F_law_alike F_validate_hall F_law_glued F_glue_state (startR n_law ws) ⟨fun _ => Φ (.d .none), Φ, fun _ => False, fun _ => False, fun _ _ => False⟩) : FnG P w K mg base (k + 1) f fd ["script"] F0 :=
  fn_g (ξ := xi0) d sc_law fun cdv A outer s H hr hg => ⟨_, _, (mss_cons (ms_for (mi_range1 z_range (ha := (ma_cons (me_callB (cm_max2) z_max (ha := (ma_cons me_int (ma_cons (me_callB (cm_min2) z_min (ha := (ma_cons me_int (ma_cons (me_callB cm_len z_len (ha := (ma_cons (me_var 0) ma_nil))) ma_nil)))) ma_nil)))) ma_nil))) (mg_name 1 sc_law.nd) (mss_cons (ms_setC 2 sc_law.nd (k := k) c_law_box hr hg l_law_box (ma_cons (me_var 0) (ma_cons (me_var 1) ma_nil)))
      (mss_cons (ms_set 3 sc_law.nd (me_callD (k := k) c_law_hall hr hg l_law_hall (ma_cons (me_var 2) (ma_cons me_int (ma_cons (me_ix (me_fz (ml_lst (ma_cons me_int (ma_cons me_int ma_nil)))) (me_callD (k := k) c_law_take hr hg l_law_take (ma_cons (me_var 2) (ma_cons me_int ma_nil)))) ma_nil)))))
      (mss_cons (ms_par2 4 5 sc_law.nd (mao_cons (me_callD (k := k) c_law_state hr hg l_law_state (ma_cons (me_var 2) (ma_cons (me_var 3) (ma_cons me_int ma_nil)))) (mao_cons (me_fz (ml_callT (cm_list) z_list (ha := (ma_cons (me_ix (me_var 3) me_int) ma_nil)))) mao_nil)))
      (mss_one (ms_for (mi_range1 z_range (ha := (ma_cons me_int ma_nil))) (mg_name 6 sc_law.nd) (mss_cons (ms_set 7 sc_law.nd (me_op om_add (me_op om_add (me_op om_add (me_var 5) (me_var 5)) (me_fz (ml_lst (ma_cons me_str (ma_cons me_str ma_nil))))) (me_fz (ml_lcX [("door", 12)] sc_law.nd (mi_seq (me_ix (me_var 3) me_int)) (blkOk_by (own := [("door", 12)]) (N := n_law) (sc := defScope s_law) (by decide +kernel)) (fun _ _ _ _ _ => ⟨_, (mg_name 12 sc_law.nd)⟩) (fun _ _ _ _ _ => ⟨_, mts_nil⟩) (fun _ _ _ _ _ => ⟨_, (me_ix (me_var 12) me_int)⟩)))))
      (mss_cons (ms_set 7 sc_law.nd (me_op om_add (me_var 7) (me_fz (ml_lcX [("place", 13)] sc_law.nd (mi_seq (me_ix (me_var 4) me_int)) (blkOk_by (own := [("place", 13)]) (N := n_law) (sc := defScope s_law) (by decide +kernel)) (fun _ _ _ _ _ => ⟨_, (mg_name 13 sc_law.nd)⟩) (fun _ _ _ _ _ => ⟨_, mts_nil⟩) (fun _ _ _ _ _ => ⟨_, (me_ix (me_var 13) me_int)⟩)))))
      (mss_cons (ms_asg (me_fz (ml_lcX [("side", 14)] sc_law.nd (mi_range1 z_range (ha := (ma_cons me_int ma_nil))) (blkOk_by (own := [("side", 14)]) (N := n_law) (sc := defScope s_law) (by decide +kernel)) (fun _ _ _ _ _ => ⟨_, (mg_name 14 sc_law.nd)⟩) (fun _ _ _ _ _ => ⟨_, mts_nil⟩) (fun _ _ _ _ _ => ⟨_, (me_ix (me_var 7) (me_callD (k := k) c_law_take hr hg l_law_take (ma_cons (me_var 2) (ma_cons (me_callB cm_len z_len (ha := (ma_cons (me_var 7) ma_nil))) ma_nil))))⟩))) (mg_lst (mgs_cons (mg_name 8 sc_law.nd) (mgs_cons (mg_name 9 sc_law.nd) mgs_nil))))
      (mss_cons (ms_par2 10 11 sc_law.nd (mao_cons (me_callB (cm_repr hr hg) z_repr (ha := (ma_cons (me_tup (ma_cons (me_var 3) (ma_cons (me_var 4) ma_nil))) ma_nil))) (mao_cons (me_callD (k := k) c_law_due hr hg l_law_due (ma_cons (me_var 3) (ma_cons (me_var 8) (ma_cons (me_var 9) ma_nil)))) mao_nil)))
      (mss_cons (ms_if (mt_not (mt_val (me_callD (k := k) c_law_alike hr hg l_law_alike (ma_cons (me_callD (k := k) c_law_told hr hg l_law_told (ma_cons (me_var 3) (ma_cons (me_var 8) (ma_cons (me_var 9) ma_nil)))) (ma_cons (me_var 11) ma_nil))))) (mss_one (ms_ret me_bl)) mss_nil)
      (mss_cons (ms_if (mt_w (mw_and (mt_cmp (om_eq hr) (me_ix (me_var 11) me_int) me_str) (mw_and1 (mt_cmp om_isnot (me_callD (k := k) c_validate_hall hr hg l_validate_hall (ma_cons (me_ix (me_var 11) me_int) ma_nil)) me_bl)))) (mss_one (ms_ret me_bl)) mss_nil)
      (mss_cons (ms_if (mt_w (mw_and (mt_cmp (om_in hr) (me_var 8) (me_var 5)) (mw_and1 (mt_cmp (om_in hr) (me_var 9) (me_var 5))))) (mss_one (ms_if (mt_not (mt_val (me_callD (k := k) c_law_alike hr hg l_law_alike (ma_cons (me_callD (k := k) c_glue_state hr hg l_glue_state (ma_cons (me_var 4) (ma_cons (me_var 8) (ma_cons (me_var 9) ma_nil)))) (ma_cons (me_callD (k := k) c_law_glued hr hg l_law_glued (ma_cons (me_var 4) (ma_cons (me_var 8) (ma_cons (me_var 9) ma_nil)))) ma_nil))))) (mss_one (ms_ret me_bl)) mss_nil)) mss_nil)
      (mss_one (ms_if (mt_cmp om_neRp (me_callB (cm_repr hr hg) z_repr (ha := (ma_cons (me_tup (ma_cons (me_var 3) (ma_cons (me_var 4) ma_nil))) ma_nil))) (me_var 10)) (mss_one (ms_ret me_bl)) mss_nil)))))))))))))))
      (mss_one (ms_ret me_bl))), m⟩
end
end Pd
end

section
set_option Elab.async false
set_option linter.all false
set_option maxRecDepth 100000
set_option autoImplicit false
set_option maxHeartbeats 4000000
namespace Pd
open PySem PySem.Spec PyProof.Rows L2 PySem.PdX
theorem all_k04 {P : Program} {w : World} {K : PySem.W.Frag} {mg : Str → Option Value} {base : Heap} {fa : Addr} {fd : FuncData}
    (tab : Tab K mg csX ysX flX subX)
    {v_UnknownRoom : V} {u_UnknownRoom : Value} (n_UnknownRoom : NmV mg "UnknownRoom" v_UnknownRoom u_UnknownRoom)
    {v_InvalidHall : V} {u_InvalidHall : Value} (n_InvalidHall : NmV mg "InvalidHall" v_InvalidHall u_InvalidHall)
    (o_InvalidHall : Oe P w K mg base "InvalidHall" ["reason", "index"])
    (o_UnknownRoom : Oe P w K mg base "UnknownRoom" ["name"])
    (g_NAME_LENGTH : ∃ t, mg "NAME_LENGTH" = some (.int 6 t))
    (g_LETTERS : ∃ t, mg "LETTERS" = some (.str "abcdefghijklmnopqrstuvwxyz" t))
    (g_ROOMS : ∃ t, mg "ROOMS" = some (.int 8 t))
    (g_DOORS : ∃ t, mg "DOORS" = some (.int 12 t))
    (d_is_name : Df K mg "is_name" s_is_name ["value"])
    (d_are_strings : Df K mg "are_strings" s_are_strings ["value", "size"])
    (d_has_form : Df K mg "has_form" s_has_form ["value"])
    (d_validate_rooms : Df K mg "validate_rooms" s_validate_rooms ["rooms"])
    (d_validate_doors : Df K mg "validate_doors" s_validate_doors ["rooms", "doors"])
    (d_validate_hall : Df K mg "validate_hall" s_validate_hall ["value"])
    (d_need_room : Df K mg "need_room" s_need_room ["hall", "room"])
    (d_glue : Df K mg "glue" s_glue ["hall", "one", "other"])
    (d_glue_state : Df K mg "glue_state" s_glue_state ["state", "one", "other"])
    (d_law_box : Df K mg "_law_box" s_law_box ["script", "k"])
    (d_law_take : Df K mg "_law_take" s_law_take ["box", "many"])
    (d_law_names : Df K mg "_law_names" s_law_names ["box", "many"])
    (d_law_hall : Df K mg "_law_hall" s_law_hall ["box", "rooms", "doors"])
    (d_law_state : Df K mg "_law_state" s_law_state ["box", "hall", "walkers"])
    (d_law_alike : Df K mg "_law_alike" s_law_alike ["found", "due"])
    (d_law_due : Df K mg "_law_due" s_law_due ["hall", "one", "other"])
    (d_law_told : Df K mg "_law_told" s_law_told ["hall", "one", "other"])
    (d_law_glued : Df K mg "_law_glued" s_law_glued ["state", "one", "other"])
    (d_law : Fun K "law" "law" s_law fa fd)
    (z_len : mg "len" = none)
    (z_isinstance : mg "isinstance" = none)
    (z_str : mg "str" = none)
    (z_all : mg "all" = none)
    (z_tuple : mg "tuple" = none)
    (z_enumerate : mg "enumerate" = none)
    (z_int : mg "int" = none)
    (z_range : mg "range" = none)
    (z_max : mg "max" = none)
    (z_list : mg "list" = none)
    (z_sorted : mg "sorted" = none)
    (z_zip : mg "zip" = none)
    (z_bool : mg "bool" = none)
    (z_dict : mg "dict" = none)
    (z_min : mg "min" = none)
    (z_repr : mg "repr" = none)
    (z_KeyError : mg "KeyError" = none)
    : FnG P w K mg base 10 fa fd ["script"] (FLaw 63) := by
  have bl_UnknownRoom : ∀ x ∈ csX, Below K mg x "UnknownRoom" (subX x "UnknownRoom") := fun x hx => tab.bl x hx "UnknownRoom" (by decide +kernel)
  have bl_InvalidHall : ∀ x ∈ csX, Below K mg x "InvalidHall" (subX x "InvalidHall") := fun x hx => tab.bl x hx "InvalidHall" (by decide +kernel)
  have c_is_name : Cl P w K mg base 1 "is_name" 1 (F_is_name) := cl_is_name (k := 0) d_is_name z_len z_isinstance z_str z_all g_NAME_LENGTH g_LETTERS (m_is_name)
  have c_are_strings : Cl P w K mg base 1 "are_strings" 2 (F_are_strings) := cl_are_strings (k := 0) d_are_strings z_isinstance z_str z_all z_len z_tuple (m_are_strings)
  have c_has_form : Cl P w K mg base 2 "has_form" 1 (F_has_form) := cl_has_form (k := 1) d_has_form z_isinstance z_tuple z_all z_len (c_are_strings.mono (by decide)) (l_are_strings) (m_has_form)
  have c_validate_rooms : Clx P w K mg base 3 "validate_rooms" 1 (F_validate_rooms) := cl_validate_rooms (k := 2) (by decide) d_validate_rooms z_enumerate o_InvalidHall (c_is_name.mono (by decide)) (l_is_name) (m_validate_rooms)
  have c_validate_doors : Clx P w K mg base 3 "validate_doors" 2 (F_validate_doors) := cl_validate_doors (k := 2) (by decide) d_validate_doors z_enumerate o_InvalidHall (c_is_name.mono (by decide)) (l_is_name) (m_validate_doors)
  have c_validate_hall : Clx P w K mg base 4 "validate_hall" 1 (F_validate_hall) := cl_validate_hall (k := 3) (by decide) d_validate_hall z_len g_ROOMS g_DOORS o_InvalidHall (c_validate_rooms.mono (by decide)) (l_validate_rooms) (c_validate_doors.mono (by decide)) (l_validate_doors) (c_has_form.mono (by decide)) (l_has_form) (m_validate_hall)
  have c_need_room : Clx P w K mg base 3 "need_room" 2 (F_need_room) := cl_need_room (k := 2) (by decide) d_need_room o_UnknownRoom (m_need_room)
  have c_glue : Clx P w K mg base 4 "glue" 3 (F_glue) := cl_glue (k := 3) (by decide) d_glue z_enumerate z_tuple o_InvalidHall (c_need_room.mono (by decide)) (l_need_room) (m_glue)
  have c_glue_state : Cl P w K mg base 1 "glue_state" 3 (F_glue_state) := cl_glue_state (k := 0) d_glue_state z_tuple (m_glue_state)
  have c_law_box : Cl P w K mg base 1 "_law_box" 2 (F_law_box) := cl_law_box (k := 0) d_law_box z_len z_int (m_law_box)
  have c_law_take : Cl P w K mg base 1 "_law_take" 2 (F_law_take) := cl_law_take (k := 0) d_law_take  (m_law_take)
  have c_law_names : Cl P w K mg base 2 "_law_names" 2 (F_law_names) := cl_law_names (k := 1) d_law_names z_range z_int z_len (c_law_take.mono (by decide)) (l_law_take) (m_law_names)
  have c_law_hall : Cl P w K mg base 3 "_law_hall" 3 (F_law_hall) := cl_law_hall (k := 2) d_law_hall z_len z_int z_max z_range z_tuple (c_law_take.mono (by decide)) (l_law_take) (c_law_names.mono (by decide)) (l_law_names) (m_law_hall)
  have c_law_state : Cl P w K mg base 3 "_law_state" 3 (F_law_state) := cl_law_state (k := 2) d_law_state z_tuple z_list z_max z_sorted z_len (c_law_take.mono (by decide)) (l_law_take) (c_law_names.mono (by decide)) (l_law_names) (m_law_state)
  have c_law_alike : Cl P w K mg base 9 "_law_alike" 2 (F_law_alike 8) := alike_cl (fun {F F'} {k} c m l => cl_law_alike (k := k) d_law_alike z_isinstance z_tuple z_list z_zip z_all z_len z_str z_bool z_dict c l m) d_law_alike 8
  have c_law_due : Cl P w K mg base 1 "_law_due" 3 (F_law_due) := cl_law_due (k := 0) d_law_due z_enumerate z_tuple (m_law_due)
  have c_law_told : Cl P w K mg base 5 "_law_told" 3 (F_law_told) := cl_law_told (k := 4) d_law_told tab n_UnknownRoom bl_UnknownRoom n_InvalidHall bl_InvalidHall (c_glue.mono (by decide)) (l_glue) (m_law_told)
  have c_law_glued : Cl P w K mg base 1 "_law_glued" 3 (F_law_glued) := cl_law_glued (k := 0) d_law_glued z_int z_tuple (m_law_glued)
  exact fn_law (k := 9) d_law z_len z_min z_max z_range z_list z_repr (c_law_box.mono (by decide)) (l_law_box) (c_law_take.mono (by decide)) (l_law_take) (c_law_hall.mono (by decide)) (l_law_hall) (c_law_state.mono (by decide)) (l_law_state) (c_law_due.mono (by decide)) (l_law_told) (c_law_told.mono (by decide)) (l_law_told) (c_law_alike.mono (by decide)) (l_law_alike 8) ((c_validate_hall.cl (F' := FV) fun ws Φ h => h).mono (by decide)) l_FV (c_law_glued.mono (by decide)) (l_glue_state) (c_glue_state.mono (by decide)) (l_glue_state) (m_law)
theorem mk_k04 {l : PySem.W.OpenLaw} {w : World} {K : PySem.W.Frag} {h : Heap} {mg : Str → Option Value} {fa : Addr} (X : K.In h) (G : h.Ns mainGlobals mg) (hfa : mg "law" = some (.ref fa))
    {f0 : Addr} (a0 : PySem.W.nsIn K mainGlobals "is_name" = some (some (.ref f0))) {od0 an0 : Option Addr} {sl0 : Array (Option Value)} {oc0 kV0 dc0 pm0 cd0 ct0 : Value} (l0 : K.lookup f0 = some ⟨oc0, od0, .func (PySem.W.fnOf "is_name" "is_name" (defArgs s_is_name) (defBody s_is_name) (defScope s_is_name) .none kV0 dc0 pm0 an0 cd0 ct0), sl0⟩) (c0 : PySem.W.codeIn K cd0 "is_name" = true) (k0 : PySem.W.keepIn K (.ref f0) = true)
    {f1 : Addr} (a1 : PySem.W.nsIn K mainGlobals "are_strings" = some (some (.ref f1))) {od1 an1 : Option Addr} {sl1 : Array (Option Value)} {oc1 kV1 dc1 pm1 cd1 ct1 : Value} (l1 : K.lookup f1 = some ⟨oc1, od1, .func (PySem.W.fnOf "are_strings" "are_strings" (defArgs s_are_strings) (defBody s_are_strings) (defScope s_are_strings) .none kV1 dc1 pm1 an1 cd1 ct1), sl1⟩) (c1 : PySem.W.codeIn K cd1 "are_strings" = true) (k1 : PySem.W.keepIn K (.ref f1) = true)
    {f2 : Addr} (a2 : PySem.W.nsIn K mainGlobals "has_form" = some (some (.ref f2))) {od2 an2 : Option Addr} {sl2 : Array (Option Value)} {oc2 kV2 dc2 pm2 cd2 ct2 : Value} (l2 : K.lookup f2 = some ⟨oc2, od2, .func (PySem.W.fnOf "has_form" "has_form" (defArgs s_has_form) (defBody s_has_form) (defScope s_has_form) .none kV2 dc2 pm2 an2 cd2 ct2), sl2⟩) (c2 : PySem.W.codeIn K cd2 "has_form" = true) (k2 : PySem.W.keepIn K (.ref f2) = true)
    {f3 : Addr} (a3 : PySem.W.nsIn K mainGlobals "validate_rooms" = some (some (.ref f3))) {od3 an3 : Option Addr} {sl3 : Array (Option Value)} {oc3 kV3 dc3 pm3 cd3 ct3 : Value} (l3 : K.lookup f3 = some ⟨oc3, od3, .func (PySem.W.fnOf "validate_rooms" "validate_rooms" (defArgs s_validate_rooms) (defBody s_validate_rooms) (defScope s_validate_rooms) .none kV3 dc3 pm3 an3 cd3 ct3), sl3⟩) (c3 : PySem.W.codeIn K cd3 "validate_rooms" = true) (k3 : PySem.W.keepIn K (.ref f3) = true)
    {f4 : Addr} (a4 : PySem.W.nsIn K mainGlobals "validate_doors" = some (some (.ref f4))) {od4 an4 : Option Addr} {sl4 : Array (Option Value)} {oc4 kV4 dc4 pm4 cd4 ct4 : Value} (l4 : K.lookup f4 = some ⟨oc4, od4, .func (PySem.W.fnOf "validate_doors" "validate_doors" (defArgs s_validate_doors) (defBody s_validate_doors) (defScope s_validate_doors) .none kV4 dc4 pm4 an4 cd4 ct4), sl4⟩) (c4 : PySem.W.codeIn K cd4 "validate_doors" = true) (k4 : PySem.W.keepIn K (.ref f4) = true)
    {f5 : Addr} (a5 : PySem.W.nsIn K mainGlobals "validate_hall" = some (some (.ref f5))) {od5 an5 : Option Addr} {sl5 : Array (Option Value)} {oc5 kV5 dc5 pm5 cd5 ct5 : Value} (l5 : K.lookup f5 = some ⟨oc5, od5, .func (PySem.W.fnOf "validate_hall" "validate_hall" (defArgs s_validate_hall) (defBody s_validate_hall) (defScope s_validate_hall) .none kV5 dc5 pm5 an5 cd5 ct5), sl5⟩) (c5 : PySem.W.codeIn K cd5 "validate_hall" = true) (k5 : PySem.W.keepIn K (.ref f5) = true)
    {f6 : Addr} (a6 : PySem.W.nsIn K mainGlobals "need_room" = some (some (.ref f6))) {od6 an6 : Option Addr} {sl6 : Array (Option Value)} {oc6 kV6 dc6 pm6 cd6 ct6 : Value} (l6 : K.lookup f6 = some ⟨oc6, od6, .func (PySem.W.fnOf "need_room" "need_room" (defArgs s_need_room) (defBody s_need_room) (defScope s_need_room) .none kV6 dc6 pm6 an6 cd6 ct6), sl6⟩) (c6 : PySem.W.codeIn K cd6 "need_room" = true) (k6 : PySem.W.keepIn K (.ref f6) = true)
    {f7 : Addr} (a7 : PySem.W.nsIn K mainGlobals "glue" = some (some (.ref f7))) {od7 an7 : Option Addr} {sl7 : Array (Option Value)} {oc7 kV7 dc7 pm7 cd7 ct7 : Value} (l7 : K.lookup f7 = some ⟨oc7, od7, .func (PySem.W.fnOf "glue" "glue" (defArgs s_glue) (defBody s_glue) (defScope s_glue) .none kV7 dc7 pm7 an7 cd7 ct7), sl7⟩) (c7 : PySem.W.codeIn K cd7 "glue" = true) (k7 : PySem.W.keepIn K (.ref f7) = true)
    {f8 : Addr} (a8 : PySem.W.nsIn K mainGlobals "glue_state" = some (some (.ref f8))) {od8 an8 : Option Addr} {sl8 : Array (Option Value)} {oc8 kV8 dc8 pm8 cd8 ct8 : Value} (l8 : K.lookup f8 = some ⟨oc8, od8, .func (PySem.W.fnOf "glue_state" "glue_state" (defArgs s_glue_state) (defBody s_glue_state) (defScope s_glue_state) .none kV8 dc8 pm8 an8 cd8 ct8), sl8⟩) (c8 : PySem.W.codeIn K cd8 "glue_state" = true) (k8 : PySem.W.keepIn K (.ref f8) = true)
    {f9 : Addr} (a9 : PySem.W.nsIn K mainGlobals "_law_box" = some (some (.ref f9))) {od9 an9 : Option Addr} {sl9 : Array (Option Value)} {oc9 kV9 dc9 pm9 cd9 ct9 : Value} (l9 : K.lookup f9 = some ⟨oc9, od9, .func (PySem.W.fnOf "_law_box" "_law_box" (defArgs s_law_box) (defBody s_law_box) (defScope s_law_box) .none kV9 dc9 pm9 an9 cd9 ct9), sl9⟩) (c9 : PySem.W.codeIn K cd9 "_law_box" = true) (k9 : PySem.W.keepIn K (.ref f9) = true)
    {f10 : Addr} (a10 : PySem.W.nsIn K mainGlobals "_law_take" = some (some (.ref f10))) {od10 an10 : Option Addr} {sl10 : Array (Option Value)} {oc10 kV10 dc10 pm10 cd10 ct10 : Value} (l10 : K.lookup f10 = some ⟨oc10, od10, .func (PySem.W.fnOf "_law_take" "_law_take" (defArgs s_law_take) (defBody s_law_take) (defScope s_law_take) .none kV10 dc10 pm10 an10 cd10 ct10), sl10⟩) (c10 : PySem.W.codeIn K cd10 "_law_take" = true) (k10 : PySem.W.keepIn K (.ref f10) = true)
    {f11 : Addr} (a11 : PySem.W.nsIn K mainGlobals "_law_names" = some (some (.ref f11))) {od11 an11 : Option Addr} {sl11 : Array (Option Value)} {oc11 kV11 dc11 pm11 cd11 ct11 : Value} (l11 : K.lookup f11 = some ⟨oc11, od11, .func (PySem.W.fnOf "_law_names" "_law_names" (defArgs s_law_names) (defBody s_law_names) (defScope s_law_names) .none kV11 dc11 pm11 an11 cd11 ct11), sl11⟩) (c11 : PySem.W.codeIn K cd11 "_law_names" = true) (k11 : PySem.W.keepIn K (.ref f11) = true)
    {f12 : Addr} (a12 : PySem.W.nsIn K mainGlobals "_law_hall" = some (some (.ref f12))) {od12 an12 : Option Addr} {sl12 : Array (Option Value)} {oc12 kV12 dc12 pm12 cd12 ct12 : Value} (l12 : K.lookup f12 = some ⟨oc12, od12, .func (PySem.W.fnOf "_law_hall" "_law_hall" (defArgs s_law_hall) (defBody s_law_hall) (defScope s_law_hall) .none kV12 dc12 pm12 an12 cd12 ct12), sl12⟩) (c12 : PySem.W.codeIn K cd12 "_law_hall" = true) (k12 : PySem.W.keepIn K (.ref f12) = true)
    {f13 : Addr} (a13 : PySem.W.nsIn K mainGlobals "_law_state" = some (some (.ref f13))) {od13 an13 : Option Addr} {sl13 : Array (Option Value)} {oc13 kV13 dc13 pm13 cd13 ct13 : Value} (l13 : K.lookup f13 = some ⟨oc13, od13, .func (PySem.W.fnOf "_law_state" "_law_state" (defArgs s_law_state) (defBody s_law_state) (defScope s_law_state) .none kV13 dc13 pm13 an13 cd13 ct13), sl13⟩) (c13 : PySem.W.codeIn K cd13 "_law_state" = true) (k13 : PySem.W.keepIn K (.ref f13) = true)
    {f14 : Addr} (a14 : PySem.W.nsIn K mainGlobals "_law_alike" = some (some (.ref f14))) {od14 an14 : Option Addr} {sl14 : Array (Option Value)} {oc14 kV14 dc14 pm14 cd14 ct14 : Value} (l14 : K.lookup f14 = some ⟨oc14, od14, .func (PySem.W.fnOf "_law_alike" "_law_alike" (defArgs s_law_alike) (defBody s_law_alike) (defScope s_law_alike) .none kV14 dc14 pm14 an14 cd14 ct14), sl14⟩) (c14 : PySem.W.codeIn K cd14 "_law_alike" = true) (k14 : PySem.W.keepIn K (.ref f14) = true)
    {f15 : Addr} (a15 : PySem.W.nsIn K mainGlobals "_law_due" = some (some (.ref f15))) {od15 an15 : Option Addr} {sl15 : Array (Option Value)} {oc15 kV15 dc15 pm15 cd15 ct15 : Value} (l15 : K.lookup f15 = some ⟨oc15, od15, .func (PySem.W.fnOf "_law_due" "_law_due" (defArgs s_law_due) (defBody s_law_due) (defScope s_law_due) .none kV15 dc15 pm15 an15 cd15 ct15), sl15⟩) (c15 : PySem.W.codeIn K cd15 "_law_due" = true) (k15 : PySem.W.keepIn K (.ref f15) = true)
    {f16 : Addr} (a16 : PySem.W.nsIn K mainGlobals "_law_told" = some (some (.ref f16))) {od16 an16 : Option Addr} {sl16 : Array (Option Value)} {oc16 kV16 dc16 pm16 cd16 ct16 : Value} (l16 : K.lookup f16 = some ⟨oc16, od16, .func (PySem.W.fnOf "_law_told" "_law_told" (defArgs s_law_told) (defBody s_law_told) (defScope s_law_told) .none kV16 dc16 pm16 an16 cd16 ct16), sl16⟩) (c16 : PySem.W.codeIn K cd16 "_law_told" = true) (k16 : PySem.W.keepIn K (.ref f16) = true)
    {f17 : Addr} (a17 : PySem.W.nsIn K mainGlobals "_law_glued" = some (some (.ref f17))) {od17 an17 : Option Addr} {sl17 : Array (Option Value)} {oc17 kV17 dc17 pm17 cd17 ct17 : Value} (l17 : K.lookup f17 = some ⟨oc17, od17, .func (PySem.W.fnOf "_law_glued" "_law_glued" (defArgs s_law_glued) (defBody s_law_glued) (defScope s_law_glued) .none kV17 dc17 pm17 an17 cd17 ct17), sl17⟩) (c17 : PySem.W.codeIn K cd17 "_law_glued" = true) (k17 : PySem.W.keepIn K (.ref f17) = true)
    {f18 : Addr} (a18 : PySem.W.nsIn K mainGlobals "law" = some (some (.ref f18))) {od18 an18 : Option Addr} {sl18 : Array (Option Value)} {oc18 kV18 dc18 pm18 cd18 ct18 : Value} (l18 : K.lookup f18 = some ⟨oc18, od18, .func (PySem.W.fnOf "law" "law" (defArgs s_law) (defBody s_law) (defScope s_law) .none kV18 dc18 pm18 an18 cd18 ct18), sl18⟩) (c18 : PySem.W.codeIn K cd18 "law" = true) (k18 : PySem.W.keepIn K (.ref f18) = true)
    (b0 : PySem.W.nsIn K mainGlobals "len" = some none)
    (b1 : PySem.W.nsIn K mainGlobals "isinstance" = some none)
    (b2 : PySem.W.nsIn K mainGlobals "str" = some none)
    (b3 : PySem.W.nsIn K mainGlobals "all" = some none)
    (b4 : PySem.W.nsIn K mainGlobals "tuple" = some none)
    (b5 : PySem.W.nsIn K mainGlobals "enumerate" = some none)
    (b6 : PySem.W.nsIn K mainGlobals "int" = some none)
    (b7 : PySem.W.nsIn K mainGlobals "range" = some none)
    (b8 : PySem.W.nsIn K mainGlobals "max" = some none)
    (b9 : PySem.W.nsIn K mainGlobals "list" = some none)
    (b10 : PySem.W.nsIn K mainGlobals "sorted" = some none)
    (b11 : PySem.W.nsIn K mainGlobals "zip" = some none)
    (b12 : PySem.W.nsIn K mainGlobals "bool" = some none)
    (b13 : PySem.W.nsIn K mainGlobals "dict" = some none)
    (b14 : PySem.W.nsIn K mainGlobals "min" = some none)
    (b15 : PySem.W.nsIn K mainGlobals "repr" = some none)
    (b16 : PySem.W.nsIn K mainGlobals "KeyError" = some none)
    {tok_NAME_LENGTH : Nat} (q_NAME_LENGTH : PySem.W.nsIn K mainGlobals "NAME_LENGTH" = some (some (.int 6 tok_NAME_LENGTH)))
    {tok_LETTERS : Nat} (q_LETTERS : PySem.W.nsIn K mainGlobals "LETTERS" = some (some (.str "abcdefghijklmnopqrstuvwxyz" tok_LETTERS)))
    {tok_ROOMS : Nat} (q_ROOMS : PySem.W.nsIn K mainGlobals "ROOMS" = some (some (.int 8 tok_ROOMS)))
    {tok_DOORS : Nat} (q_DOORS : PySem.W.nsIn K mainGlobals "DOORS" = some (some (.int 12 tok_DOORS)))
    {C_InvalidHall : Addr} {nm_InvalidHall q_InvalidHall : Str} {N_InvalidHall : Addr} {bs_InvalidHall bm_InvalidHall : List Value} {sn_InvalidHall : List Str} {sub_InvalidHall : List Value} {ab_InvalidHall : Bool} {col_InvalidHall : Option Bool} {dd_InvalidHall : Option Addr} {k0_InvalidHall k1_InvalidHall k2_InvalidHall k3_InvalidHall k5_InvalidHall : Option Value} (xa_InvalidHall : PySem.W.nsIn K mainGlobals "InvalidHall" = some (some (.ref C_InvalidHall))) (xl_InvalidHall : K.lookup C_InvalidHall = some (excClassObj nm_InvalidHall q_InvalidHall C_InvalidHall N_InvalidHall bs_InvalidHall bm_InvalidHall true sn_InvalidHall sub_InvalidHall ab_InvalidHall col_InvalidHall dd_InvalidHall k0_InvalidHall k1_InvalidHall k2_InvalidHall k3_InvalidHall k5_InvalidHall "ValueError.__new__")) (xr_InvalidHall : refsT PySem.HandSPX.veTail bm_InvalidHall = true) (xs_InvalidHall : PySem.W.findIn K (.ref C_InvalidHall) "__setattr__" = some (some (.builtin "object.__setattr__"))) (xe_InvalidHall : PySem.W.subIn K (.ref C_InvalidHall) (.type "BaseException") = some true) (xt_InvalidHall : PySem.W.typeIn K (.ref C_InvalidHall) = some (.type "type")) (xk_InvalidHall : PySem.W.keepIn K (.ref C_InvalidHall) = true) {I_InvalidHall : Addr} (xi_InvalidHall : PySem.W.findIn K (.ref C_InvalidHall) "__init__" = some (some (.ref I_InvalidHall))) (xj_InvalidHall : PySem.W.typeIn K (.ref I_InvalidHall) = some (.type "function")) {od_InvalidHall an_InvalidHall : Option Addr} {sl_InvalidHall : Array (Option Value)} {oc_InvalidHall kV_InvalidHall dc_InvalidHall pm_InvalidHall cd_InvalidHall ct_InvalidHall : Value} (l_InvalidHall : K.lookup I_InvalidHall = some ⟨oc_InvalidHall, od_InvalidHall, .func (PySem.W.fnOf "__init__" "InvalidHall.__init__" (defArgs i_InvalidHall) (defBody i_InvalidHall) (defScope i_InvalidHall) .none kV_InvalidHall dc_InvalidHall pm_InvalidHall an_InvalidHall cd_InvalidHall ct_InvalidHall), sl_InvalidHall⟩) (c_InvalidHall : PySem.W.codeIn K cd_InvalidHall "InvalidHall.__init__" = true) (k_InvalidHall : PySem.W.keepIn K (.ref I_InvalidHall) = true) (xn_InvalidHall_reason : PySem.W.findIn K (.ref C_InvalidHall) "reason" = some none) (xn_InvalidHall_index : PySem.W.findIn K (.ref C_InvalidHall) "index" = some none) (xn_InvalidHall_name : PySem.W.findIn K (.ref C_InvalidHall) "name" = some none) (xga_InvalidHall : PySem.W.findIn K (.ref C_InvalidHall) "__getattribute__" = some (some (.builtin "BaseException.__getattribute__"))) (xgg_InvalidHall : PySem.W.findIn K (.ref C_InvalidHall) "__getattr__" = some none) (xhd_InvalidHall : PySem.W.hasDictIn K C_InvalidHall = true) (xcl_InvalidHall : PySem.W.findIn K (.ref C_InvalidHall) "__class__" = some (some (.builtin "object.__class__"))) (xmo_InvalidHall : PySem.W.mroIn K C_InvalidHall (.type "object") = some true)
    {C_UnknownRoom : Addr} {nm_UnknownRoom q_UnknownRoom : Str} {N_UnknownRoom : Addr} {bs_UnknownRoom bm_UnknownRoom : List Value} {sn_UnknownRoom : List Str} {sub_UnknownRoom : List Value} {ab_UnknownRoom : Bool} {col_UnknownRoom : Option Bool} {dd_UnknownRoom : Option Addr} {k0_UnknownRoom k1_UnknownRoom k2_UnknownRoom k3_UnknownRoom k5_UnknownRoom : Option Value} (xa_UnknownRoom : PySem.W.nsIn K mainGlobals "UnknownRoom" = some (some (.ref C_UnknownRoom))) (xl_UnknownRoom : K.lookup C_UnknownRoom = some (excClassObj nm_UnknownRoom q_UnknownRoom C_UnknownRoom N_UnknownRoom bs_UnknownRoom bm_UnknownRoom true sn_UnknownRoom sub_UnknownRoom ab_UnknownRoom col_UnknownRoom dd_UnknownRoom k0_UnknownRoom k1_UnknownRoom k2_UnknownRoom k3_UnknownRoom k5_UnknownRoom "LookupError.__new__")) (xr_UnknownRoom : refsT keTail bm_UnknownRoom = true) (xs_UnknownRoom : PySem.W.findIn K (.ref C_UnknownRoom) "__setattr__" = some (some (.builtin "object.__setattr__"))) (xe_UnknownRoom : PySem.W.subIn K (.ref C_UnknownRoom) (.type "BaseException") = some true) (xt_UnknownRoom : PySem.W.typeIn K (.ref C_UnknownRoom) = some (.type "type")) (xk_UnknownRoom : PySem.W.keepIn K (.ref C_UnknownRoom) = true) {I_UnknownRoom : Addr} (xi_UnknownRoom : PySem.W.findIn K (.ref C_UnknownRoom) "__init__" = some (some (.ref I_UnknownRoom))) (xj_UnknownRoom : PySem.W.typeIn K (.ref I_UnknownRoom) = some (.type "function")) {od_UnknownRoom an_UnknownRoom : Option Addr} {sl_UnknownRoom : Array (Option Value)} {oc_UnknownRoom kV_UnknownRoom dc_UnknownRoom pm_UnknownRoom cd_UnknownRoom ct_UnknownRoom : Value} (l_UnknownRoom : K.lookup I_UnknownRoom = some ⟨oc_UnknownRoom, od_UnknownRoom, .func (PySem.W.fnOf "__init__" "UnknownRoom.__init__" (defArgs i_UnknownRoom) (defBody i_UnknownRoom) (defScope i_UnknownRoom) .none kV_UnknownRoom dc_UnknownRoom pm_UnknownRoom an_UnknownRoom cd_UnknownRoom ct_UnknownRoom), sl_UnknownRoom⟩) (c_UnknownRoom : PySem.W.codeIn K cd_UnknownRoom "UnknownRoom.__init__" = true) (k_UnknownRoom : PySem.W.keepIn K (.ref I_UnknownRoom) = true) (xn_UnknownRoom_reason : PySem.W.findIn K (.ref C_UnknownRoom) "reason" = some none) (xn_UnknownRoom_index : PySem.W.findIn K (.ref C_UnknownRoom) "index" = some none) (xn_UnknownRoom_name : PySem.W.findIn K (.ref C_UnknownRoom) "name" = some none) (xga_UnknownRoom : PySem.W.findIn K (.ref C_UnknownRoom) "__getattribute__" = some (some (.builtin "BaseException.__getattribute__"))) (xgg_UnknownRoom : PySem.W.findIn K (.ref C_UnknownRoom) "__getattr__" = some none) (xhd_UnknownRoom : PySem.W.hasDictIn K C_UnknownRoom = true) (xcl_UnknownRoom : PySem.W.findIn K (.ref C_UnknownRoom) "__class__" = some (some (.builtin "object.__class__"))) (xmo_UnknownRoom : PySem.W.mroIn K C_UnknownRoom (.type "object") = some true)
    (xsp : PySem.W.specialIn K (.builtin "object.__class__") "__get__" = some (some (.builtin "getset_descriptor.__get__"))) (xtk : PySem.W.takesIn K (.builtin "object.__class__") = some true)
    (xvK : PySem.W.findCls K (.type "KeyError") (.type "type") "__init__" = some (.val (.builtin "KeyError.__init__")))
    {C_HallError : Addr} {oc_HallError : Value} {od_HallError : Option Addr} {cd_HallError : ClassData} {sl_HallError : Array (Option Value)} (xa_HallError : PySem.W.nsIn K mainGlobals "HallError" = some (some (.ref C_HallError))) (xl_HallError : K.lookup C_HallError = some ⟨oc_HallError, od_HallError, .cls cd_HallError, sl_HallError⟩) (xe_HallError : PySem.W.subIn K (.ref C_HallError) (.type "BaseException") = some true) (xt_HallError : PySem.W.typeIn K (.ref C_HallError) = some (.type "type"))
    (xhg : PySem.W.specialIn K (.ref C_HallError) "__getattribute__" = some (some (.builtin "type.__getattribute__"))) (xhr : PySem.W.readsIn K C_HallError (.type "type") = true) (xhv : PySem.W.findCls K (.ref C_HallError) (.type "type") "__init__" = some (.val (.builtin "ValueError.__init__")))
    (xp_InvalidHall_UnknownRoom : PySem.W.subIn K (.ref C_InvalidHall) (.ref C_UnknownRoom) = some false) (xd_InvalidHall_UnknownRoom : (Value.ref C_InvalidHall == Value.ref C_UnknownRoom) = false)
    (xp_InvalidHall_InvalidHall : PySem.W.subIn K (.ref C_InvalidHall) (.ref C_InvalidHall) = some true)
    (xp_UnknownRoom_UnknownRoom : PySem.W.subIn K (.ref C_UnknownRoom) (.ref C_UnknownRoom) = some true)
    (xp_UnknownRoom_InvalidHall : PySem.W.subIn K (.ref C_UnknownRoom) (.ref C_InvalidHall) = some false) (xd_UnknownRoom_InvalidHall : (Value.ref C_UnknownRoom == Value.ref C_InvalidHall) = false)
    : ∃ fd : FuncData, (∀ (s : Shared) (v : Value), BindsTo s fd ⟨[v], []⟩ [("script", v)]) ∧ ∀ base : Heap, K.In base → base.Ns mainGlobals mg → FnG l.prog w K mg base 10 fa fd ["script"] (FLaw 63) := by
  have e := hfa.symm.trans (PySem.W.mg_of X G a18)
  cases e
  have F0 := fun_mk (st := s_is_name) l0 c0 k0
  have D0 : Df K mg "is_name" s_is_name ["value"] := ⟨_, _, F0, PySem.W.mg_of X G a0, F0.binds (ps := ["value"]) fun _ _ _ _ _ _ us hl => match us, hl with | [_], _ => rfl⟩
  have F1 := fun_mk (st := s_are_strings) l1 c1 k1
  have D1 : Df K mg "are_strings" s_are_strings ["value", "size"] := ⟨_, _, F1, PySem.W.mg_of X G a1, F1.binds (ps := ["value", "size"]) fun _ _ _ _ _ _ us hl => match us, hl with | [_, _], _ => rfl⟩
  have F2 := fun_mk (st := s_has_form) l2 c2 k2
  have D2 : Df K mg "has_form" s_has_form ["value"] := ⟨_, _, F2, PySem.W.mg_of X G a2, F2.binds (ps := ["value"]) fun _ _ _ _ _ _ us hl => match us, hl with | [_], _ => rfl⟩
  have F3 := fun_mk (st := s_validate_rooms) l3 c3 k3
  have D3 : Df K mg "validate_rooms" s_validate_rooms ["rooms"] := ⟨_, _, F3, PySem.W.mg_of X G a3, F3.binds (ps := ["rooms"]) fun _ _ _ _ _ _ us hl => match us, hl with | [_], _ => rfl⟩
  have F4 := fun_mk (st := s_validate_doors) l4 c4 k4
  have D4 : Df K mg "validate_doors" s_validate_doors ["rooms", "doors"] := ⟨_, _, F4, PySem.W.mg_of X G a4, F4.binds (ps := ["rooms", "doors"]) fun _ _ _ _ _ _ us hl => match us, hl with | [_, _], _ => rfl⟩
  have F5 := fun_mk (st := s_validate_hall) l5 c5 k5
  have D5 : Df K mg "validate_hall" s_validate_hall ["value"] := ⟨_, _, F5, PySem.W.mg_of X G a5, F5.binds (ps := ["value"]) fun _ _ _ _ _ _ us hl => match us, hl with | [_], _ => rfl⟩
  have F6 := fun_mk (st := s_need_room) l6 c6 k6
  have D6 : Df K mg "need_room" s_need_room ["hall", "room"] := ⟨_, _, F6, PySem.W.mg_of X G a6, F6.binds (ps := ["hall", "room"]) fun _ _ _ _ _ _ us hl => match us, hl with | [_, _], _ => rfl⟩
  have F7 := fun_mk (st := s_glue) l7 c7 k7
  have D7 : Df K mg "glue" s_glue ["hall", "one", "other"] := ⟨_, _, F7, PySem.W.mg_of X G a7, F7.binds (ps := ["hall", "one", "other"]) fun _ _ _ _ _ _ us hl => match us, hl with | [_, _, _], _ => rfl⟩
  have F8 := fun_mk (st := s_glue_state) l8 c8 k8
  have D8 : Df K mg "glue_state" s_glue_state ["state", "one", "other"] := ⟨_, _, F8, PySem.W.mg_of X G a8, F8.binds (ps := ["state", "one", "other"]) fun _ _ _ _ _ _ us hl => match us, hl with | [_, _, _], _ => rfl⟩
  have F9 := fun_mk (st := s_law_box) l9 c9 k9
  have D9 : Df K mg "_law_box" s_law_box ["script", "k"] := ⟨_, _, F9, PySem.W.mg_of X G a9, F9.binds (ps := ["script", "k"]) fun _ _ _ _ _ _ us hl => match us, hl with | [_, _], _ => rfl⟩
  have F10 := fun_mk (st := s_law_take) l10 c10 k10
  have D10 : Df K mg "_law_take" s_law_take ["box", "many"] := ⟨_, _, F10, PySem.W.mg_of X G a10, F10.binds (ps := ["box", "many"]) fun _ _ _ _ _ _ us hl => match us, hl with | [_, _], _ => rfl⟩
  have F11 := fun_mk (st := s_law_names) l11 c11 k11
  have D11 : Df K mg "_law_names" s_law_names ["box", "many"] := ⟨_, _, F11, PySem.W.mg_of X G a11, F11.binds (ps := ["box", "many"]) fun _ _ _ _ _ _ us hl => match us, hl with | [_, _], _ => rfl⟩
  have F12 := fun_mk (st := s_law_hall) l12 c12 k12
  have D12 : Df K mg "_law_hall" s_law_hall ["box", "rooms", "doors"] := ⟨_, _, F12, PySem.W.mg_of X G a12, F12.binds (ps := ["box", "rooms", "doors"]) fun _ _ _ _ _ _ us hl => match us, hl with | [_, _, _], _ => rfl⟩
  have F13 := fun_mk (st := s_law_state) l13 c13 k13
  have D13 : Df K mg "_law_state" s_law_state ["box", "hall", "walkers"] := ⟨_, _, F13, PySem.W.mg_of X G a13, F13.binds (ps := ["box", "hall", "walkers"]) fun _ _ _ _ _ _ us hl => match us, hl with | [_, _, _], _ => rfl⟩
  have F14 := fun_mk (st := s_law_alike) l14 c14 k14
  have D14 : Df K mg "_law_alike" s_law_alike ["found", "due"] := ⟨_, _, F14, PySem.W.mg_of X G a14, F14.binds (ps := ["found", "due"]) fun _ _ _ _ _ _ us hl => match us, hl with | [_, _], _ => rfl⟩
  have F15 := fun_mk (st := s_law_due) l15 c15 k15
  have D15 : Df K mg "_law_due" s_law_due ["hall", "one", "other"] := ⟨_, _, F15, PySem.W.mg_of X G a15, F15.binds (ps := ["hall", "one", "other"]) fun _ _ _ _ _ _ us hl => match us, hl with | [_, _, _], _ => rfl⟩
  have F16 := fun_mk (st := s_law_told) l16 c16 k16
  have D16 : Df K mg "_law_told" s_law_told ["hall", "one", "other"] := ⟨_, _, F16, PySem.W.mg_of X G a16, F16.binds (ps := ["hall", "one", "other"]) fun _ _ _ _ _ _ us hl => match us, hl with | [_, _, _], _ => rfl⟩
  have F17 := fun_mk (st := s_law_glued) l17 c17 k17
  have D17 : Df K mg "_law_glued" s_law_glued ["state", "one", "other"] := ⟨_, _, F17, PySem.W.mg_of X G a17, F17.binds (ps := ["state", "one", "other"]) fun _ _ _ _ _ _ us hl => match us, hl with | [_, _, _], _ => rfl⟩
  have F18 := fun_mk (st := s_law) l18 c18 k18
  have m_InvalidHall := PySem.W.mg_of X G xa_InvalidHall
  have m_UnknownRoom := PySem.W.mg_of X G xa_UnknownRoom
  have m_HallError := PySem.W.mg_of X G xa_HallError
  have m_KeyError := PySem.W.mg_none_of X G b16
  have hbx : BaseX K mg "HallError" := ⟨_, m_HallError, xhg, xhr, xhv⟩
  have T_InvalidHall := oek_V xl_InvalidHall xr_InvalidHall xs_InvalidHall xe_InvalidHall xt_InvalidHall xk_InvalidHall
  have FI_InvalidHall := fun_mk (st := i_InvalidHall) l_InvalidHall c_InvalidHall k_InvalidHall
  have O_InvalidHall : ∀ base : Heap, Oe l.prog w K mg base "InvalidHall" ["reason", "index"] := fun base => oe_InvalidHall m_InvalidHall T_InvalidHall xi_InvalidHall xj_InvalidHall FI_InvalidHall (FI_InvalidHall.binds (ps := ["self", "reason", "index"]) fun _ _ _ _ _ _ us hl => match us, hl with | [_, _, _], _ => rfl) xn_InvalidHall_reason xn_InvalidHall_index hbx
  have T_UnknownRoom := oek_K xl_UnknownRoom xr_UnknownRoom xs_UnknownRoom xe_UnknownRoom xt_UnknownRoom xk_UnknownRoom
  have FI_UnknownRoom := fun_mk (st := i_UnknownRoom) l_UnknownRoom c_UnknownRoom k_UnknownRoom
  have O_UnknownRoom : ∀ base : Heap, Oe l.prog w K mg base "UnknownRoom" ["name"] := fun base => oe_UnknownRoom m_UnknownRoom T_UnknownRoom xi_UnknownRoom xj_UnknownRoom FI_UnknownRoom (FI_UnknownRoom.binds (ps := ["self", "name"]) fun _ _ _ _ _ _ us hl => match us, hl with | [_, _], _ => rfl) xn_UnknownRoom_name m_KeyError xvK
  have XX_InvalidHall : ClsX K C_InvalidHall _ := ⟨T_InvalidHall, xga_InvalidHall, xgg_InvalidHall, xhd_InvalidHall, xcl_InvalidHall, xmo_InvalidHall, xsp, xtk⟩
  have XX_UnknownRoom : ClsX K C_UnknownRoom _ := ⟨T_UnknownRoom, xga_UnknownRoom, xgg_UnknownRoom, xhd_UnknownRoom, xcl_UnknownRoom, xmo_UnknownRoom, xsp, xtk⟩
  have tab : Tab K mg csX ysX flX subX := by
    refine ⟨fun x hx => ?_, fun x hx y hy => ?_⟩
    · simp only [csX, List.mem_cons, List.not_mem_nil, or_false] at hx
      rcases hx with rfl | rfl
      · refine ⟨C_InvalidHall, m_InvalidHall, XX_InvalidHall.xf, XX_InvalidHall.ex, fun f hf => ?_⟩
        simp only [flX, List.mem_cons, List.not_mem_nil, or_false] at hf
        rcases hf with rfl | rfl | rfl
        · exact xn_InvalidHall_reason
        · exact xn_InvalidHall_index
        · exact xn_InvalidHall_name
      · refine ⟨C_UnknownRoom, m_UnknownRoom, XX_UnknownRoom.xf, XX_UnknownRoom.ex, fun f hf => ?_⟩
        simp only [flX, List.mem_cons, List.not_mem_nil, or_false] at hf
        rcases hf with rfl | rfl | rfl
        · exact xn_UnknownRoom_reason
        · exact xn_UnknownRoom_index
        · exact xn_UnknownRoom_name
    · simp only [csX, List.mem_cons, List.not_mem_nil, or_false] at hx
      simp only [ysX, List.mem_cons, List.not_mem_nil, or_false] at hy
      rcases hx with rfl | rfl
      · rcases hy with rfl | rfl
        · rw [sx_InvalidHall_UnknownRoom]
          exact below_own m_InvalidHall m_UnknownRoom xl_UnknownRoom xt_UnknownRoom xe_UnknownRoom xp_InvalidHall_UnknownRoom (.inr xd_InvalidHall_UnknownRoom)
        · rw [sx_InvalidHall_InvalidHall]
          exact below_own m_InvalidHall m_InvalidHall xl_InvalidHall xt_InvalidHall xe_InvalidHall xp_InvalidHall_InvalidHall (.inl rfl)
      · rcases hy with rfl | rfl
        · rw [sx_UnknownRoom_UnknownRoom]
          exact below_own m_UnknownRoom m_UnknownRoom xl_UnknownRoom xt_UnknownRoom xe_UnknownRoom xp_UnknownRoom_UnknownRoom (.inl rfl)
        · rw [sx_UnknownRoom_InvalidHall]
          exact below_own m_UnknownRoom m_InvalidHall xl_InvalidHall xt_InvalidHall xe_InvalidHall xp_UnknownRoom_InvalidHall (.inr xd_UnknownRoom_InvalidHall)
  exact ⟨PySem.W.fnOf "law" "law" (defArgs s_law) (defBody s_law) (defScope s_law) .none kV18 dc18 pm18 an18 cd18 ct18, fun s v => .of_eq rfl, fun base _ _ => all_k04 tab (.own m_UnknownRoom) (.own m_InvalidHall) (O_InvalidHall base) (O_UnknownRoom base) ⟨_, PySem.W.mg_of X G q_NAME_LENGTH⟩ ⟨_, PySem.W.mg_of X G q_LETTERS⟩ ⟨_, PySem.W.mg_of X G q_ROOMS⟩ ⟨_, PySem.W.mg_of X G q_DOORS⟩ D0 D1 D2 D3 D4 D5 D6 D7 D8 D9 D10 D11 D12 D13 D14 D15 D16 D17 F18 (PySem.W.mg_none_of X G b0) (PySem.W.mg_none_of X G b1) (PySem.W.mg_none_of X G b2) (PySem.W.mg_none_of X G b3) (PySem.W.mg_none_of X G b4) (PySem.W.mg_none_of X G b5) (PySem.W.mg_none_of X G b6) (PySem.W.mg_none_of X G b7) (PySem.W.mg_none_of X G b8) (PySem.W.mg_none_of X G b9) (PySem.W.mg_none_of X G b10) (PySem.W.mg_none_of X G b11) (PySem.W.mg_none_of X G b12) (PySem.W.mg_none_of X G b13) (PySem.W.mg_none_of X G b14) (PySem.W.mg_none_of X G b15) (PySem.W.mg_none_of X G b16)⟩
end Pd
open PySem PySem.W PyProof.Rows
set_option maxHeartbeats 0 in
theorem PySem.Challenge.cw_turndoors_k04_glue_holds : PySem.Challenge.rw_turndoors_k04_glue.Holds := by
  w_on; o_law; k_head; (case hw => w_witness2)
  k_fill
  refine Pd.head_of (l := PySem.Challenge.rw_turndoors_k04_glue) (n := 63) (k := 10) (x := "script") rfl (by decide) rfl ⟨rfl, by decide, by decide⟩ (fun w h Y => PySem.W.kIn_of Y) ?F
  case F =>
    intro w mg fa h KX G hmg
    refine' Pd.mk_k04 KX G hmg ?a0 ?l0 ?c0 ?k0 ?a1 ?l1 ?c1 ?k1 ?a2 ?l2 ?c2 ?k2 ?a3 ?l3 ?c3 ?k3 ?a4 ?l4 ?c4 ?k4 ?a5 ?l5 ?c5 ?k5 ?a6 ?l6 ?c6 ?k6 ?a7 ?l7 ?c7 ?k7 ?a8 ?l8 ?c8 ?k8 ?a9 ?l9 ?c9 ?k9 ?a10 ?l10 ?c10 ?k10 ?a11 ?l11 ?c11 ?k11 ?a12 ?l12 ?c12 ?k12 ?a13 ?l13 ?c13 ?k13 ?a14 ?l14 ?c14 ?k14 ?a15 ?l15 ?c15 ?k15 ?a16 ?l16 ?c16 ?k16 ?a17 ?l17 ?c17 ?k17 ?a18 ?l18 ?c18 ?k18 ?b0 ?b1 ?b2 ?b3 ?b4 ?b5 ?b6 ?b7 ?b8 ?b9 ?b10 ?b11 ?b12 ?b13 ?b14 ?b15 ?b16 ?q_NAME_LENGTH ?q_LETTERS ?q_ROOMS ?q_DOORS ?xa_InvalidHall ?xl_InvalidHall ?xr_InvalidHall ?xs_InvalidHall ?xe_InvalidHall ?xt_InvalidHall ?xk_InvalidHall ?xi_InvalidHall ?xj_InvalidHall ?l_InvalidHall ?c_InvalidHall ?k_InvalidHall ?xn_InvalidHall_reason ?xn_InvalidHall_index ?xn_InvalidHall_name ?xga_InvalidHall ?xgg_InvalidHall ?xhd_InvalidHall ?xcl_InvalidHall ?xmo_InvalidHall ?xa_UnknownRoom ?xl_UnknownRoom ?xr_UnknownRoom ?xs_UnknownRoom ?xe_UnknownRoom ?xt_UnknownRoom ?xk_UnknownRoom ?xi_UnknownRoom ?xj_UnknownRoom ?l_UnknownRoom ?c_UnknownRoom ?k_UnknownRoom ?xn_UnknownRoom_reason ?xn_UnknownRoom_index ?xn_UnknownRoom_name ?xga_UnknownRoom ?xgg_UnknownRoom ?xhd_UnknownRoom ?xcl_UnknownRoom ?xmo_UnknownRoom ?xsp ?xtk ?xvK ?xa_HallError ?xl_HallError ?xe_HallError ?xt_HallError ?xhg ?xhr ?xhv ?xp_InvalidHall_UnknownRoom ?xd_InvalidHall_UnknownRoom ?xp_InvalidHall_InvalidHall ?xp_UnknownRoom_UnknownRoom ?xp_UnknownRoom_InvalidHall ?xd_UnknownRoom_InvalidHall
    (case a0 => k_is); (case l0 => k_is); (case c0 => k_is); (case k0 => k_is); (case a1 => k_is); (case l1 => k_is); (case c1 => k_is); (case k1 => k_is); (case a2 => k_is); (case l2 => k_is); (case c2 => k_is); (case k2 => k_is); (case a3 => k_is); (case l3 => k_is); (case c3 => k_is); (case k3 => k_is); (case a4 => k_is); (case l4 => k_is); (case c4 => k_is); (case k4 => k_is); (case a5 => k_is); (case l5 => k_is); (case c5 => k_is); (case k5 => k_is); (case a6 => k_is); (case l6 => k_is); (case c6 => k_is); (case k6 => k_is); (case a7 => k_is); (case l7 => k_is); (case c7 => k_is); (case k7 => k_is); (case a8 => k_is); (case l8 => k_is); (case c8 => k_is); (case k8 => k_is); (case a9 => k_is); (case l9 => k_is); (case c9 => k_is); (case k9 => k_is); (case a10 => k_is); (case l10 => k_is); (case c10 => k_is); (case k10 => k_is); (case a11 => k_is); (case l11 => k_is); (case c11 => k_is); (case k11 => k_is); (case a12 => k_is); (case l12 => k_is); (case c12 => k_is); (case k12 => k_is); (case a13 => k_is); (case l13 => k_is); (case c13 => k_is); (case k13 => k_is); (case a14 => k_is); (case l14 => k_is); (case c14 => k_is); (case k14 => k_is); (case a15 => k_is); (case l15 => k_is); (case c15 => k_is); (case k15 => k_is); (case a16 => k_is); (case l16 => k_is); (case c16 => k_is); (case k16 => k_is); (case a17 => k_is); (case l17 => k_is); (case c17 => k_is); (case k17 => k_is); (case a18 => k_is); (case l18 => k_is); (case c18 => k_is); (case k18 => k_is); (case b0 => k_is); (case b1 => k_is); (case b2 => k_is); (case b3 => k_is); (case b4 => k_is); (case b5 => k_is); (case b6 => k_is); (case b7 => k_is); (case b8 => k_is); (case b9 => k_is); (case b10 => k_is); (case b11 => k_is); (case b12 => k_is); (case b13 => k_is); (case b14 => k_is); (case b15 => k_is); (case b16 => k_is); (case q_NAME_LENGTH => k_is); (case q_LETTERS => k_is); (case q_ROOMS => k_is); (case q_DOORS => k_is); (case xa_InvalidHall => k_is); (case xl_InvalidHall => k_is); (case xr_InvalidHall => rfl); (case xs_InvalidHall => k_is); (case xe_InvalidHall => k_is); (case xt_InvalidHall => k_is); (case xk_InvalidHall => k_is); (case xi_InvalidHall => k_is); (case xj_InvalidHall => k_is); (case l_InvalidHall => k_is); (case c_InvalidHall => k_is); (case k_InvalidHall => k_is); (case xn_InvalidHall_reason => k_is); (case xn_InvalidHall_index => k_is); (case xn_InvalidHall_name => k_is); (case xga_InvalidHall => k_is); (case xgg_InvalidHall => k_is); (case xhd_InvalidHall => k_is); (case xcl_InvalidHall => k_is); (case xmo_InvalidHall => k_is); (case xa_UnknownRoom => k_is); (case xl_UnknownRoom => k_is); (case xr_UnknownRoom => rfl); (case xs_UnknownRoom => k_is); (case xe_UnknownRoom => k_is); (case xt_UnknownRoom => k_is); (case xk_UnknownRoom => k_is); (case xi_UnknownRoom => k_is); (case xj_UnknownRoom => k_is); (case l_UnknownRoom => k_is); (case c_UnknownRoom => k_is); (case k_UnknownRoom => k_is); (case xn_UnknownRoom_reason => k_is); (case xn_UnknownRoom_index => k_is); (case xn_UnknownRoom_name => k_is); (case xga_UnknownRoom => k_is); (case xgg_UnknownRoom => k_is); (case xhd_UnknownRoom => k_is); (case xcl_UnknownRoom => k_is); (case xmo_UnknownRoom => k_is); (case xsp => k_is); (case xtk => k_is); (case xvK => k_is); (case xa_HallError => k_is); (case xl_HallError => k_is); (case xe_HallError => k_is); (case xt_HallError => k_is); (case xhg => k_is); (case xhr => k_is); (case xhv => k_is); (case xp_InvalidHall_UnknownRoom => k_is); (case xd_InvalidHall_UnknownRoom => rfl); (case xp_InvalidHall_InvalidHall => k_is); (case xp_UnknownRoom_UnknownRoom => k_is); (case xp_UnknownRoom_InvalidHall => k_is); (case xd_UnknownRoom_InvalidHall => rfl)
end
