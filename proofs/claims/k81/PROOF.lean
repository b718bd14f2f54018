import PyProof.Rows.All
import Wide.All
import OpenK.AllK
import Wide.FinOn
import KE.KStateDown
import KE.KFromBytes
import PyProof.ReprRoads
import HandS.ForMost
import HandS.Text
import HandS.StrMore
import HandS.RaiseMore
import HandS.Deep
import HandS.Exc
import HandS.ExcOwn
import HandS.ExcInit
import HandS.ExcField
import HandS.ExcIs
import HandS.IsInst
import HandS.Defaults
import HandS.Flow
import HandS.Style
import HandS.WordsExc
import HandS.Conv
import HandS.OwnEq
import HandS.Walk
import HandS.Wide
import HandS.WideBits
import HandS.Head0
import HandS.Head1
import HandS.Head2
import HandS.HeadEnd
import HandS.HeadHook1
import HandS.HeadHook2
import HandS.HeadHook3
import PyProof.InstNe
import PyProof.FactsLen
import KE.KExcIs
import HandS.Iter
import KE.GoesZip
import KE.GoesMore
import KE.KUnpackStar
import HandS.Small
import HandS.TryOnly
import HandS.EndBits
import KE.DataEq
import PyProof.Rows.StrJoinRep
import PySem.Challenge.RW_forkthrift_k81_whole_paths_gone_alone
set_option Elab.async false
set_option linter.all false
set_option maxRecDepth 100000
section
set_option maxHeartbeats 4000000
/-! Data by value over the hand layer: what a value is worth where the objects behind it no longer change. -/
namespace Fk
open PySem PySem.Spec PyProof.Rows L2

/-- a value by its worth; ref a: an object that may still change, or an instance -/
inductive D where
  | non | bl (b : Bool) | int (i : Int) | str (x : Str) | ref (a : Addr) | ty (n : String)
  | tup (ds : List D) | list (ds : List D) | ro (ds : List D) | dict (ks : List Key) (ds : List D) | exn (c : Nat) (fs : List Nat) (ds : List D)
instance : Inhabited D := ⟨.non⟩

/-- an object that may still change -/
inductive MO where
  | lst (ds : List D) | dK (ks : List Key) (ds : List D) | ins (c : Nat) (fs : List (Nat × D))

abbrev Mem := Addr → Option MO
def mset (μ : Mem) (a : Addr) (o : MO) : Mem := fun b => if b = a then some o else μ b
def mdel (μ : Mem) (a : Addr) : Mem := fun b => if b = a then none else μ b
theorem mset_same {μ : Mem} {a : Addr} {o : MO} : mset μ a o a = some o := if_pos rfl
theorem mset_ne {μ : Mem} {a b : Addr} {o : MO} (h : b ≠ a) : mset μ a o b = μ b := if_neg h
theorem mdel_same {μ : Mem} {a : Addr} : mdel μ a a = none := if_pos rfl
theorem mdel_ne {μ : Mem} {a b : Addr} (h : b ≠ a) : mdel μ a b = μ b := if_neg h
theorem mset_mset {μ : Mem} {a : Addr} {o u : MO} : mset (mset μ a o) a u = mset μ a u := by
  funext b; unfold mset; split <;> rfl
theorem mdel_mset {μ : Mem} {a : Addr} {o : MO} (h : μ a = none) : mdel (mset μ a o) a = μ := by
  funext b; unfold mdel mset
  by_cases e : b = a
  · rw [if_pos e, e, h]
  · rw [if_neg e, if_neg e]
theorem mset_comm {μ : Mem} {a b : Addr} {o u : MO} (h : a ≠ b) : mset (mset μ a o) b u = mset (mset μ b u) a o := by
  funext c; unfold mset
  by_cases e : c = a
  · by_cases e2 : c = b
    · exact absurd (e.symm.trans e2) h
    · rw [if_neg e2, if_pos e, if_pos e]
  · by_cases e2 : c = b
    · rw [if_pos e2, if_neg e, if_pos e2]
    · rw [if_neg e2, if_neg e, if_neg e, if_neg e2]

/-- what the text's numbers stand for: classes, fields -/
structure Sg where
  K : PySem.W.Frag
  cA : Nat → Addr
  fN : Nat → Str
  hid : Addr → Prop
def Sg.hide (S : Sg) (p : Addr) : Sg := { S with hid := fun a => S.hid a ∨ a = p }

def KL (K : PySem.W.Frag) (a : Addr) (xs : List V) : Prop :=
  ∃ (o : Obj) (its : Array Value) (n : Nat), K.lookup a = some o ∧ o.cls = .type "list" ∧ o.dict = none ∧ o.data = .seq its n ∧ its.size ≤ sizeLine ∧ Vals xs its.toList
def KT (K : PySem.W.Frag) (a : Addr) (xs : List V) : Prop :=
  ∃ (o : Obj) (its : Array Value) (n : Nat), K.lookup a = some o ∧ o.cls = .type "tuple" ∧ o.data = .seq its n ∧ its.size ≤ sizeLine ∧ Vals xs its.toList
def ImL (S : Sg) (μ : Mem) (H : Hp) (a : Addr) (vs : List V) : Prop := (μ a = none ∧ ¬ S.hid a ∧ Rd H a (.lst vs)) ∨ KL S.K a vs
def ImT (S : Sg) (μ : Mem) (H : Hp) (a : Addr) (vs : List V) : Prop := (μ a = none ∧ ¬ S.hid a ∧ Rd H a (.tup vs)) ∨ KT S.K a vs

mutual
inductive Dat (S : Sg) (μ : Mem) (H : Hp) : V → D → Prop where
  | non : Dat S μ H .non .non
  | bl (b : Bool) : Dat S μ H (.bl b) (.bl b)
  | int (i : Int) : Dat S μ H (.int i) (.int i)
  | str (x : Str) : Dat S μ H (.str x) (.str x)
  | ref (a : Addr) : Dat S μ H (.ref a) (.ref a)
  | ty (n : String) : Dat S μ H (.ty n) (.ty n)
  | tup {a : Addr} {vs : List V} {ds : List D} (h : ImT S μ H a vs) (r : Dats S μ H vs ds) : Dat S μ H (.ref a) (.tup ds)
  | list {a : Addr} {vs : List V} {ds : List D} (m : μ a = none) (n : ¬ S.hid a) (h : H a = some (.lst vs)) (r : Dats S μ H vs ds) : Dat S μ H (.ref a) (.list ds)
  | ro {a : Addr} {vs : List V} {ds : List D} (h : ImL S μ H a vs) (r : Dats S μ H vs ds) : Dat S μ H (.ref a) (.ro ds)
  | dict {a : Addr} {kvs : List (Key × V)} {ks : List Key} {vs : List V} {ds : List D} (m : μ a = none) (n : ¬ S.hid a) (h : H a = some (.dK kvs)) (e : kvs.map (·.1) = ks) (e2 : kvs.map (·.2) = vs) (r : Dats S μ H vs ds) : Dat S μ H (.ref a) (.dict ks ds)
inductive Dats (S : Sg) (μ : Mem) (H : Hp) : List V → List D → Prop where
  | nil : Dats S μ H [] []
  | cons {v : V} {d : D} {vs : List V} {ds : List D} (h : Dat S μ H v d) (t : Dats S μ H vs ds) : Dats S μ H (v :: vs) (d :: ds)
end

/-- what no longer changes is there still, and does not change -/
def Grow (μ : Mem) (H : Hp) (μ' : Mem) (H' : Hp) : Prop := ∀ a o, μ a = none → H a = some o → H' a = some o ∧ μ' a = none
theorem Grow.refl (μ : Mem) (H : Hp) : Grow μ H μ H := fun _ _ m h => ⟨h, m⟩
theorem Grow.trans {μ μ1 μ2 : Mem} {H H1 H2 : Hp} (a : Grow μ H μ1 H1) (b : Grow μ1 H1 μ2 H2) : Grow μ H μ2 H2 := fun c o m h =>
  let ⟨h1, m1⟩ := a c o m h
  b c o m1 h1
section
variable {S : Sg} {μ μ' : Mem} {H H' : Hp} {a : Addr} {v : V} {d : D} {vs : List V} {ds : List D} {o : HO}
theorem Grow.rd (g : Grow μ H μ' H') {u : HO} (m : μ a = none) (h : Rd H a u) : μ' a = none ∧ Rd H' a u := by
  rcases h with h | ⟨o, h⟩
  · obtain ⟨h1, m1⟩ := g a _ m h
    exact ⟨m1, .inl h1⟩
  · obtain ⟨h1, m1⟩ := g a _ m h
    exact ⟨m1, .inr ⟨o, h1⟩⟩
theorem ImL.grow (h : ImL S μ H a vs) (g : Grow μ H μ' H') : ImL S μ' H' a vs := h.elim (fun h => .inl ⟨(g.rd h.1 h.2.2).1, h.2.1, (g.rd h.1 h.2.2).2⟩) .inr
theorem ImT.grow (h : ImT S μ H a vs) (g : Grow μ H μ' H') : ImT S μ' H' a vs := h.elim (fun h => .inl ⟨(g.rd h.1 h.2.2).1, h.2.1, (g.rd h.1 h.2.2).2⟩) .inr
theorem ImL.sq (h : ImL S μ H a vs) : SqL S.K H a vs := h.elim (fun h => .inl h.2.2) .inr
theorem ImT.sq (h : ImT S μ H a vs) : SqT S.K H a vs := h.elim (fun h => .inl h.2.2) .inr
mutual
theorem Dat.grow : ∀ {v : V} {d : D}, Dat S μ H v d → Grow μ H μ' H' → Dat S μ' H' v d
  | _, _, .non, _ => .non
  | _, _, .bl b, _ => .bl b
  | _, _, .int i, _ => .int i
  | _, _, .str x, _ => .str x
  | _, _, .ref a, _ => .ref a
  | _, _, .ty n, _ => .ty n
  | _, _, .tup h r, g => .tup (h.grow g) (Dats.grow r g)
  | _, _, .list m n h r, g => .list (g _ _ m h).2 n (g _ _ m h).1 (Dats.grow r g)
  | _, _, .ro h r, g => .ro (h.grow g) (Dats.grow r g)
  | _, _, .dict m n h e e2 r, g => .dict (g _ _ m h).2 n (g _ _ m h).1 e e2 (Dats.grow r g)
theorem Dats.grow : ∀ {vs : List V} {ds : List D}, Dats S μ H vs ds → Grow μ H μ' H' → Dats S μ' H' vs ds
  | _, _, .nil, _ => .nil
  | _, _, .cons h t, g => .cons (Dat.grow h g) (Dats.grow t g)
end
theorem Dats.length : ∀ {vs : List V} {ds : List D}, Dats S μ H vs ds → vs.length = ds.length
  | _, _, .nil => rfl
  | _, _, .cons _ t => congrArg (· + 1) (Dats.length t)
theorem Dats.get : ∀ {vs : List V} {ds : List D} {i : Nat} {v : V}, Dats S μ H vs ds → vs[i]? = some v → ∃ d, ds[i]? = some d ∧ Dat S μ H v d
  | _, _, _, _, .nil, e => by simp at e
  | _, _, 0, _, .cons h _, e => by simp at e; subst e; exact ⟨_, rfl, h⟩
  | _, _, i + 1, v, .cons _ t, e => by
    obtain ⟨d, h1, h2⟩ := Dats.get (i := i) (v := v) t (by simpa using e)
    exact ⟨d, by simpa using h1, h2⟩
theorem Dats.get' : ∀ {vs : List V} {ds : List D} {i : Nat} {d : D}, Dats S μ H vs ds → ds[i]? = some d → ∃ v, vs[i]? = some v ∧ Dat S μ H v d
  | _, _, _, _, .nil, e => by simp at e
  | _, _, 0, _, .cons h _, e => by simp at e; subst e; exact ⟨_, rfl, h⟩
  | _, _, i + 1, d, .cons _ t, e => by
    obtain ⟨v, h1, h2⟩ := Dats.get' (i := i) (d := d) t (by simpa using e)
    exact ⟨v, by simpa using h1, h2⟩
theorem Dats.append : ∀ {vs ws : List V} {ds es : List D}, Dats S μ H vs ds → Dats S μ H ws es → Dats S μ H (vs ++ ws) (ds ++ es)
  | _, _, _, _, .nil, s => s
  | _, _, _, _, .cons h t, s => .cons h (Dats.append t s)
theorem Dats.set : ∀ {vs : List V} {ds : List D} {v : V} {d : D} (i : Nat), Dats S μ H vs ds → Dat S μ H v d → Dats S μ H (vs.set i v) (ds.set i d)
  | _, _, _, _, _, .nil, _ => .nil
  | _, _, _, _, 0, .cons _ t, r => .cons r t
  | _, _, _, _, i + 1, .cons q t, r => .cons q (Dats.set i t r)
theorem Dats.take : ∀ {vs : List V} {ds : List D} (n : Nat), Dats S μ H vs ds → Dats S μ H (vs.take n) (ds.take n)
  | _, _, 0, _ => .nil
  | _, _, _ + 1, .nil => .nil
  | _, _, n + 1, .cons r t => .cons r (Dats.take n t)
theorem Dats.drop : ∀ {vs : List V} {ds : List D} (n : Nat), Dats S μ H vs ds → Dats S μ H (vs.drop n) (ds.drop n)
  | _, _, 0, r => r
  | _, _, _ + 1, .nil => .nil
  | _, _, n + 1, .cons _ t => Dats.drop n t
theorem Dats.reverse {vs : List V} {ds : List D} (r : Dats S μ H vs ds) : Dats S μ H vs.reverse ds.reverse := by
  induction ds generalizing vs with
  | nil => cases r; exact .nil
  | cons d ds ih =>
    cases r with
    | cons h t =>
      rw [List.reverse_cons, List.reverse_cons]
      exact (ih t).append (.cons h .nil)

def Flds (S : Sg) (μ : Mem) (H : Hp) (ws : List (Str × V)) (fs : List (Nat × D)) : Prop :=
  (∀ f d, fs.lookup f = some d → ∃ v, ws.lookup (S.fN f) = some v ∧ Dat S μ H v d) ∧ (∀ nm v, ws.lookup nm = some v → ∃ f, nm = S.fN f ∧ (fs.lookup f).isSome = true) ∧ ws.length ≤ fs.length
def MoOk (S : Sg) (μ : Mem) (H : Hp) (a : Addr) : MO → Prop
  | .lst ds => ∃ vs, H a = some (.lst vs) ∧ Dats S μ H vs ds
  | .dK ks ds => ∃ kvs vs, H a = some (.dK kvs) ∧ kvs.map (·.1) = ks ∧ kvs.map (·.2) = vs ∧ Dats S μ H vs ds
  | .ins c fs => ∃ dx ws, H a = some (.ins (S.cA c) dx ws) ∧ Flds S μ H ws fs
structure Mm (S : Sg) (μ : Mem) (H : Hp) : Prop where
  ok : ∀ a o, μ a = some o → MoOk S μ H a o
  hd : ∀ a, S.hid a → μ a = none ∧ ∃ o, H a = some o
theorem Flds.grow {ws : List (Str × V)} {fs : List (Nat × D)} (h : Flds S μ H ws fs) (g : Grow μ H μ' H') : Flds S μ' H' ws fs :=
  ⟨fun f d e => let ⟨v, h1, h2⟩ := h.1 f d e; ⟨v, h1, h2.grow g⟩, h.2.1, h.2.2⟩
/-- an object that may change is as it was, in what has grown -/
theorem MoOk.grow {mo : MO} (h : MoOk S μ H a mo) (g : Grow μ H μ' H') (e : H' a = H a) : MoOk S μ' H' a mo := by
  cases mo with
  | lst ds => obtain ⟨vs, h1, r⟩ := h; exact ⟨vs, e.trans h1, r.grow g⟩
  | dK ks ds => obtain ⟨kvs, vs, h1, h2, h3, r⟩ := h; exact ⟨kvs, vs, e.trans h1, h2, h3, r.grow g⟩
  | ins c fs => obtain ⟨dx, ws, h1, r⟩ := h; exact ⟨dx, ws, e.trans h1, r.grow g⟩
theorem MoOk.there {mo : MO} (h : MoOk S μ H a mo) : ∃ o, H a = some o := by
  cases mo with
  | lst ds => obtain ⟨vs, h1, _⟩ := h; exact ⟨_, h1⟩
  | dK ks ds => obtain ⟨kvs, vs, h1, _⟩ := h; exact ⟨_, h1⟩
  | ins c fs => obtain ⟨dx, ws, h1, _⟩ := h; exact ⟨_, h1⟩
theorem Mm.free (m : Mm S μ H) (h : H a = none) : μ a = none := by
  cases e : μ a with
  | none => rfl
  | some mo =>
    obtain ⟨o, q⟩ := (m.ok a mo e).there
    rw [h] at q
    cases q
/-- a new object that does not change -/
theorem Grow.new (h : H a = none) : Grow μ H μ (upd H a o) := fun b u m e => ⟨by rw [upd_ne (ne_of_none e h)]; exact e, m⟩
theorem Mm.hids (m : Mm S μ H) (h : H a = none) : ¬ S.hid a := fun z => by
  obtain ⟨_, o, e⟩ := m.hd a z
  rw [h] at e
  cases e
theorem Mm.hdG (m : Mm S μ H) (g : Grow μ H μ' H') : ∀ a, S.hid a → μ' a = none ∧ ∃ o, H' a = some o := fun a z =>
  let ⟨h1, o, h2⟩ := m.hd a z
  ⟨(g a o h1 h2).2, o, (g a o h1 h2).1⟩
theorem Mm.new (m : Mm S μ H) (h : H a = none) : Mm S μ (upd H a o) := ⟨fun b mo e => by
  have q := m.ok b mo e
  obtain ⟨u, hu⟩ := q.there
  exact q.grow (Grow.new h) (by rw [upd_ne (ne_of_none hu h)]), m.hdG (Grow.new h)⟩
/-- a new object that may change -/
theorem Grow.newM {mo : MO} (h : H a = none) : Grow μ H (mset μ a mo) (upd H a o) := fun b u m e =>
  ⟨by rw [upd_ne (ne_of_none e h)]; exact e, by rw [mset_ne (ne_of_none e h)]; exact m⟩
theorem Mm.newM {mo : MO} (m : Mm S μ H) (h : H a = none) (q : MoOk S (mset μ a mo) (upd H a o) a mo) : Mm S (mset μ a mo) (upd H a o) := ⟨fun b mo' e => by
  by_cases hb : b = a
  · subst hb
    rw [mset_same] at e
    cases e
    exact q
  · rw [mset_ne hb] at e
    exact (m.ok b mo' e).grow (Grow.newM h) (by rw [upd_ne hb]), m.hdG (Grow.newM h)⟩
/-- an object that may change is written -/
theorem Grow.write {mo mo' : MO} (h : μ a = some mo) : Grow μ H (mset μ a mo') (upd H a o) := fun b u m e => by
  have n : b ≠ a := fun z => by subst z; rw [h] at m; cases m
  exact ⟨by rw [upd_ne n]; exact e, by rw [mset_ne n]; exact m⟩
theorem Mm.write {mo mo' : MO} (m : Mm S μ H) (h : μ a = some mo) (q : MoOk S (mset μ a mo') (upd H a o) a mo') : Mm S (mset μ a mo') (upd H a o) := ⟨fun b mo2 e => by
  by_cases hb : b = a
  · subst hb
    rw [mset_same] at e
    cases e
    exact q
  · rw [mset_ne hb] at e
    exact (m.ok b mo2 e).grow (Grow.write h) (by rw [upd_ne hb]), m.hdG (Grow.write h)⟩
/-- an object changes no more -/
theorem Grow.freeze : Grow μ H (mdel μ a) H := fun b u m e => ⟨e, by
  by_cases hb : b = a
  · rw [hb]; exact mdel_same
  · rw [mdel_ne hb]; exact m⟩
theorem Mm.freeze (m : Mm S μ H) : Mm S (mdel μ a) H := ⟨fun b mo e => by
  have hb : b ≠ a := fun z => by subst z; rw [mdel_same] at e; cases e
  rw [mdel_ne hb] at e
  exact (m.ok b mo e).grow Grow.freeze rfl, m.hdG Grow.freeze⟩
end


/-! ### a list that is being made is hidden -/
section
variable {S : Sg} {μ : Mem} {H H' : Hp} {p : Addr}
mutual
theorem Dat.hide (hp : H p = none) : ∀ {v : V} {d : D}, Dat S μ H v d → Dat (S.hide p) μ H v d
  | _, _, .non => .non
  | _, _, .bl b => .bl b
  | _, _, .int i => .int i
  | _, _, .str x => .str x
  | _, _, .ref a => .ref a
  | _, _, .ty n => .ty n
  | _, _, .tup h r => .tup (h.elim (fun h => .inl ⟨h.1, fun z => z.elim h.2.1 fun z => by
      subst z
      rcases h.2.2 with q | ⟨o, q⟩ <;> (rw [hp] at q; cases q), h.2.2⟩) .inr) (Dats.hide hp r)
  | _, _, .list m n h r => .list m (fun z => z.elim n (fun z => by subst z; rw [hp] at h; cases h)) h (Dats.hide hp r)
  | _, _, .ro h r => .ro (h.elim (fun h => .inl ⟨h.1, fun z => z.elim h.2.1 fun z => by
      subst z
      rcases h.2.2 with q | ⟨o, q⟩ <;> (rw [hp] at q; cases q), h.2.2⟩) .inr) (Dats.hide hp r)
  | _, _, .dict m n h e e2 r => .dict m (fun z => z.elim n (fun z => by subst z; rw [hp] at h; cases h)) h e e2 (Dats.hide hp r)
theorem Dats.hide (hp : H p = none) : ∀ {vs : List V} {ds : List D}, Dats S μ H vs ds → Dats (S.hide p) μ H vs ds
  | _, _, .nil => .nil
  | _, _, .cons h t => .cons (Dat.hide hp h) (Dats.hide hp t)
end
mutual
/-- what does not lean on the hidden stands under any change of it; and it needn't be hidden any more -/
theorem Dat.show_ {μ' : Mem} (he : ∀ a, a ≠ p → H' a = H a) (hm : ∀ a, a ≠ p → μ' a = μ a) : ∀ {v : V} {d : D}, Dat (S.hide p) μ H v d → Dat (S.hide p) μ' H' v d
  | _, _, .non => .non
  | _, _, .bl b => .bl b
  | _, _, .int i => .int i
  | _, _, .str x => .str x
  | _, _, .ref a => .ref a
  | _, _, .ty n => .ty n
  | _, _, .tup h r => .tup (h.elim (fun h => .inl ⟨(hm _ fun z => h.2.1 (.inr z)).trans h.1, h.2.1, by
      have e := he _ fun z => h.2.1 (.inr z)
      rcases h.2.2 with q | ⟨o, q⟩
      · exact .inl (e.trans q)
      · exact .inr ⟨o, e.trans q⟩⟩) .inr) (Dats.show_ he hm r)
  | _, _, .list m n h r => .list ((hm _ fun z => n (.inr z)).trans m) n ((he _ fun z => n (.inr z)).trans h) (Dats.show_ he hm r)
  | _, _, .ro h r => .ro (h.elim (fun h => .inl ⟨(hm _ fun z => h.2.1 (.inr z)).trans h.1, h.2.1, by
      have e := he _ fun z => h.2.1 (.inr z)
      rcases h.2.2 with q | ⟨o, q⟩
      · exact .inl (e.trans q)
      · exact .inr ⟨o, e.trans q⟩⟩) .inr) (Dats.show_ he hm r)
  | _, _, .dict m n h e e2 r => .dict ((hm _ fun z => n (.inr z)).trans m) n ((he _ fun z => n (.inr z)).trans h) e e2 (Dats.show_ he hm r)
theorem Dats.show_ {μ' : Mem} (he : ∀ a, a ≠ p → H' a = H a) (hm : ∀ a, a ≠ p → μ' a = μ a) : ∀ {vs : List V} {ds : List D}, Dats (S.hide p) μ H vs ds → Dats (S.hide p) μ' H' vs ds
  | _, _, .nil => .nil
  | _, _, .cons h t => .cons (Dat.show_ he hm h) (Dats.show_ he hm t)
end
mutual
theorem Dat.bare : ∀ {v : V} {d : D}, Dat (S.hide p) μ H v d → Dat S μ H v d
  | _, _, .non => .non
  | _, _, .bl b => .bl b
  | _, _, .int i => .int i
  | _, _, .str x => .str x
  | _, _, .ref a => .ref a
  | _, _, .ty n => .ty n
  | _, _, .tup h r => .tup (h.elim (fun h => .inl ⟨h.1, fun z => h.2.1 (.inl z), h.2.2⟩) .inr) (Dats.bare r)
  | _, _, .list m n h r => .list m (fun z => n (.inl z)) h (Dats.bare r)
  | _, _, .ro h r => .ro (h.elim (fun h => .inl ⟨h.1, fun z => h.2.1 (.inl z), h.2.2⟩) .inr) (Dats.bare r)
  | _, _, .dict m n h e e2 r => .dict m (fun z => n (.inl z)) h e e2 (Dats.bare r)
theorem Dats.bare : ∀ {vs : List V} {ds : List D}, Dats (S.hide p) μ H vs ds → Dats S μ H vs ds
  | _, _, .nil => .nil
  | _, _, .cons h t => .cons (Dat.bare h) (Dats.bare t)
end
/-- Mm over any change of how values are told -/
theorem Mm.map {S' : Sg} {μ : Mem} {H H' : Hp} (m : Mm S μ H) (hc : S'.cA = S.cA) (hf : S'.fN = S.fN) (he : ∀ a mo, μ a = some mo → H' a = H a) (hd : ∀ v d, Dat S μ H v d → Dat S' μ H' v d) (hh : ∀ a, S'.hid a → μ a = none ∧ ∃ o, H' a = some o) : Mm S' μ H' := by
  have hds : ∀ vs ds, Dats S μ H vs ds → Dats S' μ H' vs ds := by
    intro vs
    induction vs with
    | nil => intro ds h; cases h; exact .nil
    | cons v vs ih => intro ds h; cases h with | cons a b => exact .cons (hd _ _ a) (ih _ b)
  refine ⟨fun a mo e => ?_, hh⟩
  have q := m.ok a mo e
  have e2 := he a mo e
  cases mo with
  | lst ds => obtain ⟨vs, h1, r⟩ := q; exact ⟨vs, e2.trans h1, hds _ _ r⟩
  | dK ks ds => obtain ⟨kvs, vs, h1, h2, h3, r⟩ := q; exact ⟨kvs, vs, e2.trans h1, h2, h3, hds _ _ r⟩
  | ins c fs =>
    obtain ⟨dx, ws, h1, r⟩ := q
    refine ⟨dx, ws, by rw [hc]; exact e2.trans h1, fun f d z => ?_, fun nm v z => ?_, r.2.2⟩
    · obtain ⟨v, h2, h3⟩ := r.1 f d z
      exact ⟨v, by rw [hf]; exact h2, hd _ _ h3⟩
    · obtain ⟨f, h2, h3⟩ := r.2.1 nm v z
      exact ⟨f, by rw [hf]; exact h2, h3⟩
end

/-! ### slots, what follows -/
abbrev Env := List (Option D)
/-- which exceptions a suite holds: where, of which class, its dict -/
abbrev PX := Addr → Nat → Option Addr → Prop
abbrev noPn : PX := fun _ _ _ => False
/-- an exception's fields, in its dict -/
def XD (S : Sg) (μ : Mem) (H : Hp) (dd : Option Addr) (fs : List (Nat × D)) : Prop := match dd with
  | none => fs = []
  | some d => μ d = none ∧ ¬ S.hid d ∧ ∃ ws, H d = some (.xd ws) ∧ ∀ f x, fs.lookup f = some x → ∃ v, ws.lookup (S.fN f) = some v ∧ Dat S μ H v x
theorem XD.grow {S : Sg} {μ μ' : Mem} {H H' : Hp} {dd : Option Addr} {fs : List (Nat × D)} (x : XD S μ H dd fs) (g : Grow μ H μ' H') : XD S μ' H' dd fs := by
  cases dd with
  | none => exact x
  | some d =>
    obtain ⟨m, h, ws, e, r⟩ := x
    obtain ⟨z1, z2⟩ := g _ _ m e
    exact ⟨z2, h, ws, z1, fun f x q => let ⟨v, h1, h2⟩ := r f x q; ⟨v, h1, h2.grow g⟩⟩
/-- what a name holds: a value, or the exception of an except clause -/
def SDat (S : Sg) (Pn : PX) (μ : Mem) (H : Hp) (v : V) : D → Prop
  | .exn c fs ds => ∃ a dd, v = .ref a ∧ Pn a c dd ∧ XD S μ H dd (fs.zip ds)
  | d => Dat S μ H v d
theorem SDat.of {S : Sg} {Pn : PX} {μ : Mem} {H : Hp} {v : V} {d : D} (r : Dat S μ H v d) : SDat S Pn μ H v d := by
  cases r <;> first
    | exact .non
    | exact .bl _
    | exact .int _
    | exact .str _
    | exact .ref _
    | exact .ty _
    | exact .tup (by assumption) (by assumption)
    | exact .list (by assumption) (by assumption) (by assumption) (by assumption)
    | exact .ro (by assumption) (by assumption)
    | exact .dict (by assumption) (by assumption) (by assumption) (by assumption) (by assumption) (by assumption)
def isX : D → Bool
  | .exn _ _ _ => true
  | _ => false
theorem SDat.dat {S : Sg} {Pn : PX} {μ : Mem} {H : Hp} {v : V} {d : D} (r : SDat S Pn μ H v d) (h : isX d = false) : Dat S μ H v d := by
  cases d <;> first
    | exact r
    | cases h
theorem SDat.grow {S : Sg} {Pn : PX} {μ μ' : Mem} {H H' : Hp} {v : V} {d : D} (r : SDat S Pn μ H v d) (g : Grow μ H μ' H') : SDat S Pn μ' H' v d := by
  cases h : isX d with
  | false => exact .of ((r.dat h).grow g)
  | true =>
    cases d <;> first
      | cases h
      | skip
    obtain ⟨a, dd, h1, h2, h3⟩ := r
    exact ⟨a, dd, h1, h2, h3.grow g⟩
structure St2 (S : Sg) (Pn : PX) (ρ : Env) (σ : L2.St) (μ : Mem) (H : Hp) : Prop where
  mm : Mm S μ H
  sl : ∀ (i : Nat) d, ρ[i]? = some (some d) → ∃ v, σ[i]? = some (some v) ∧ SDat S Pn μ H v d
  len : ρ.length = σ.length
theorem St2.grow {S : Sg} {Pn : PX} {ρ : Env} {σ : L2.St} {μ μ' : Mem} {H H' : Hp} (s : St2 S Pn ρ σ μ H) (g : Grow μ H μ' H') (m : Mm S μ' H') : St2 S Pn ρ σ μ' H' :=
  ⟨m, fun i d e => let ⟨v, h1, h2⟩ := s.sl i d e; ⟨v, h1, h2.grow g⟩, s.len⟩
theorem St2.setX {S : Sg} {Pn : PX} {ρ : Env} {σ : L2.St} {μ : Mem} {H : Hp} (s : St2 S Pn ρ σ μ H) (i : Nat) {v : V} {d : D} (r : SDat S Pn μ H v d) : St2 S Pn (ρ.set i (some d)) (σ.set i (some v)) μ H :=
  ⟨s.mm, fun j e h => by
    by_cases hj : i = j
    · subst hj
      by_cases hl : i < ρ.length
      · rw [List.getElem?_set_self hl] at h
        cases h
        exact ⟨v, by rw [List.getElem?_set_self (by rw [← s.len]; exact hl)], r⟩
      · rw [List.getElem?_eq_none (by simpa using hl)] at h
        cases h
    · rw [List.getElem?_set_ne hj] at h
      obtain ⟨w, h1, h2⟩ := s.sl j e h
      exact ⟨w, by rw [List.getElem?_set_ne hj]; exact h1, h2⟩, by rw [List.length_set, List.length_set, s.len]⟩
theorem St2.set {S : Sg} {Pn : PX} {ρ : Env} {σ : L2.St} {μ : Mem} {H : Hp} (s : St2 S Pn ρ σ μ H) (i : Nat) {v : V} {d : D} (r : Dat S μ H v d) : St2 S Pn (ρ.set i (some d)) (σ.set i (some v)) μ H := s.setX i (.of r)
theorem St2.unset {S : Sg} {Pn : PX} {ρ : Env} {σ : L2.St} {μ : Mem} {H : Hp} (s : St2 S Pn ρ σ μ H) (i : Nat) : St2 S Pn (ρ.set i none) (σ.set i none) μ H :=
  ⟨s.mm, fun j e h => by
    by_cases hj : i = j
    · subst hj
      by_cases hl : i < ρ.length
      · rw [List.getElem?_set_self hl] at h; cases h
      · rw [List.getElem?_eq_none (by simpa using hl)] at h; cases h
    · rw [List.getElem?_set_ne hj] at h
      obtain ⟨w, h1, h2⟩ := s.sl j e h
      exact ⟨w, by rw [List.getElem?_set_ne hj]; exact h1, h2⟩, by rw [List.length_set, List.length_set, s.len]⟩
/-- the exception let go: what a name held of it is forgotten -/
def dropX (ρ : Env) : Env := ρ.map fun s => match s with
  | some d => if isX d = true then none else some d
  | none => none
theorem St2.dropX {S : Sg} {Pn Pn' : PX} {ρ : Env} {σ : L2.St} {μ : Mem} {H : Hp} (s : St2 S Pn ρ σ μ H) : St2 S Pn' (dropX ρ) σ μ H :=
  ⟨s.mm, fun i d e => by
    unfold Fk.dropX at e
    rw [List.getElem?_map] at e
    cases q : ρ[i]? with
    | none => rw [q] at e; cases e
    | some o =>
      rw [q] at e
      cases o with
      | none => cases e
      | some d' =>
        have e' : (if isX d' = true then none else some d') = some d := Option.some.inj e
        cases hx : isX d' with
        | true => rw [hx] at e'; cases e'
        | false =>
          rw [hx] at e'
          cases e'
          obtain ⟨v, h1, h2⟩ := s.sl i d q
          exact ⟨v, h1, .of (h2.dat hx)⟩, by unfold Fk.dropX; rw [List.length_map, s.len]⟩

abbrev AQ := D → Mem → Prop
/-- an exception: its class, its fields -/
abbrev AX := Nat → List (Nat × D) → Mem → Prop
def KQ (S : Sg) (μ : Mem) (H : Hp) (Φ : AQ) (Q : VK) : Prop := ∀ d μ' v H', Grow μ H μ' H' → Mm S μ' H' → Dat S μ' H' v d → Φ d μ' → Q v H'
structure XOk (S : Sg) (μ : Mem) (H : Hp) (cls : Value) (dd : Option Addr) (c : Nat) (fs : List (Nat × D)) : Prop where
  cls : cls = .ref (S.cA c)
  xd : XD S μ H dd fs
theorem XOk.grow {S : Sg} {μ μ' : Mem} {H H' : Hp} {cls : Value} {dd : Option Addr} {c : Nat} {fs : List (Nat × D)} (x : XOk S μ H cls dd c fs) (g : Grow μ H μ' H') : XOk S μ' H' cls dd c fs := ⟨x.cls, x.xd.grow g⟩
def KX (S : Sg) (μ : Mem) (H : Hp) (Ψ : AX) (E : XK) : Prop := ∀ c fs μ' cls dd H', Grow μ H μ' H' → Mm S μ' H' → XOk S μ' H' cls dd c fs → Ψ c fs μ' → E cls dd H'
section
variable {S : Sg} {μ μ' : Mem} {H H' : Hp} {Φ : AQ} {Q : VK} {Ψ : AX} {E : XK}
theorem KQ.grow (k : KQ S μ H Φ Q) (g : Grow μ H μ' H') : KQ S μ' H' Φ Q := fun d μ2 v H2 g2 => k d μ2 v H2 (g.trans g2)
theorem KX.grow (k : KX S μ H Ψ E) (g : Grow μ H μ' H') : KX S μ' H' Ψ E := fun c fs μ2 cls dd H2 g2 => k c fs μ2 cls dd H2 (g.trans g2)
end
abbrev AE := Env → Mem → AQ → AX → Prop
abbrev AEs := Env → Mem → (List D → Mem → Prop) → AX → Prop
abbrev AT := Env → Mem → (Bool → Mem → Prop) → AX → Prop
/-- an expression's reading by what it is worth -/
def lE (S : Sg) (Pn : PX) (W : WX) (w : AE) : TE := fun σ H Q => ∃ ρ μ Φ Ψ, St2 S Pn ρ σ μ H ∧ w ρ μ Φ Ψ ∧ KQ S μ H Φ Q ∧ KX S μ H Ψ (fun cls dd H' => W cls dd σ H')
def lA (S : Sg) (Pn : PX) (W : WX) (w : AEs) : TA := fun σ H Q => ∃ ρ μ Φ Ψ, St2 S Pn ρ σ μ H ∧ w ρ μ Φ Ψ ∧ (∀ ds μ' vs H', Grow μ H μ' H' → Mm S μ' H' → Dats S μ' H' vs ds → Φ ds μ' → Q vs H') ∧ KX S μ H Ψ (fun cls dd H' => W cls dd σ H')
def lT (S : Sg) (Pn : PX) (W : WX) (w : AT) : TT := fun σ H Q => ∃ ρ μ Φ Ψ, St2 S Pn ρ σ μ H ∧ w ρ μ Φ Ψ ∧ (∀ b μ' H', Grow μ H μ' H' → Mm S μ' H' → Φ b μ' → Q b H') ∧ KX S μ H Ψ (fun cls dd H' => W cls dd σ H')
theorem PE.weak {X : Cx} {e : Expr} {t t' : TE} (h : PE X e t) (w : ∀ σ H Q, t' σ H Q → t σ H Q) : PE X e t' := ⟨fun pins s σ H Q I q => h.run pins s σ H Q I (w σ H Q q)⟩
theorem PT.weak {X : Cx} {e : Expr} {t t' : TT} (h : PT X e t) (w : ∀ σ H Q, t' σ H Q → t σ H Q) : PT X e t' := ⟨fun pins s σ H Q I q => h.run pins s σ H Q I (w σ H Q q)⟩
theorem PA.weak {X : Cx} {e : List Expr} {t t' : TA} (h : PA X e t) (w : ∀ σ H Q, t' σ H Q → t σ H Q) : PA X e t' := ⟨fun pos pins s σ H Q I q => h.run pos pins s σ H Q I (w σ H Q q)⟩
theorem PS.weak {X : Cx} {e : Stmt} {t t' : TS} (h : PS X e t) (w : ∀ D σ H, t' D σ H → t D σ H) : PS X e t' := ⟨fun pins s σ H D I q => h.run pins s σ H D I (w D σ H q)⟩
theorem PSs.weak {X : Cx} {e : List Stmt} {t t' : TS} (h : PSs X e t) (w : ∀ D σ H, t' D σ H → t D σ H) : PSs X e t' := ⟨fun pins s σ H D I q => h.run pins s σ H D I (w D σ H q)⟩
section
variable {S : Sg} {Pn : PX} {W : WX} {ρ : Env} {σ : L2.St} {μ : Mem} {H : Hp} {Ψ : AX}
/-- an expression, then what follows -/
theorem lE.bind {w : AE} {B : AQ} {R : VK} (h : St2 S Pn ρ σ μ H) (hw : w ρ μ B Ψ) (kx : KX S μ H Ψ (fun cls dd H' => W cls dd σ H'))
    (hk : ∀ x μ1 vx H1, Grow μ H μ1 H1 → St2 S Pn ρ σ μ1 H1 → Dat S μ1 H1 vx x → KX S μ1 H1 Ψ (fun cls dd H' => W cls dd σ H') → B x μ1 → R vx H1) : lE S Pn W w σ H R :=
  ⟨ρ, μ, B, Ψ, h, hw, fun d μ' v H' g m r b => hk d μ' v H' g (h.grow g m) r (kx.grow g) b, kx⟩
theorem lA.bind {w : AEs} {B : List D → Mem → Prop} {R : List V → Hp → Prop} (h : St2 S Pn ρ σ μ H) (hw : w ρ μ B Ψ) (kx : KX S μ H Ψ (fun cls dd H' => W cls dd σ H'))
    (hk : ∀ xs μ1 vxs H1, Grow μ H μ1 H1 → St2 S Pn ρ σ μ1 H1 → Dats S μ1 H1 vxs xs → KX S μ1 H1 Ψ (fun cls dd H' => W cls dd σ H') → B xs μ1 → R vxs H1) : lA S Pn W w σ H R :=
  ⟨ρ, μ, B, Ψ, h, hw, fun d μ' v H' g m r b => hk d μ' v H' g (h.grow g m) r (kx.grow g) b, kx⟩
theorem lT.bind {w : AT} {B : Bool → Mem → Prop} {R : Bool → Hp → Prop} (h : St2 S Pn ρ σ μ H) (hw : w ρ μ B Ψ) (kx : KX S μ H Ψ (fun cls dd H' => W cls dd σ H'))
    (hk : ∀ b μ1 H1, Grow μ H μ1 H1 → St2 S Pn ρ σ μ1 H1 → KX S μ1 H1 Ψ (fun cls dd H' => W cls dd σ H') → B b μ1 → R b H1) : lT S Pn W w σ H R :=
  ⟨ρ, μ, B, Ψ, h, hw, fun d μ' H' g m b => hk d μ' H' g (h.grow g m) (kx.grow g) b, kx⟩
end
end Fk
end
section
set_option maxHeartbeats 4000000
/-! The core of a def's text, and what must hold so that it runs: by what values are worth. -/
namespace Fk
open PySem PySem.Spec PyProof.Rows L2

/-! ### data as the library's -/
mutual
def D.py : D → Option PyData
  | .non => some .none
  | .bl b => some (.bool b)
  | .int i => some (.int i)
  | .str x => some (.str x)
  | .tup ds => (D.pyL ds).map .tuple
  | .list ds => (D.pyL ds).map .list
  | .ro ds => (D.pyL ds).map .list
  | .dict ks ds => if ks.isEmpty && ds.isEmpty then some (.dict []) else none
  | .ref _ => none
  | .ty _ => none
  | .exn _ _ _ => none
def D.pyL : List D → Option (List PyData)
  | [] => some []
  | d :: ds => match D.py d, D.pyL ds with
    | some x, some xs => some (x :: xs)
    | _, _ => none
end
/-- a list that may change, as it stands -/
def deref (μ : Mem) : D → D
  | .ref a => match μ a with
    | some (.lst ds) => .list ds
    | _ => .ref a
  | d => d
/-- the same, of a tuple's items too -/
def derefT (μ : Mem) : D → D
  | .tup ds => .tup (ds.map (deref μ))
  | d => deref μ d
theorem deref_py {μ : Mem} {d : D} {p : PyData} (h : d.py = some p) : deref μ d = d := by
  cases d <;> first
    | rfl
    | (cases h; done)
theorem derefL_py {μ : Mem} : ∀ {ds : List D} {ps : List PyData}, D.pyL ds = some ps → ds.map (deref μ) = ds
  | [], _, _ => rfl
  | d :: ds, ps, h => by
    have h' : (match D.py d, D.pyL ds with
      | some x, some xs => some (x :: xs)
      | _, _ => none) = some ps := h
    cases q : D.py d with
    | none => rw [q] at h'; cases h'
    | some x =>
      cases q2 : D.pyL ds with
      | none => rw [q, q2] at h'; cases h'
      | some xs =>
        rw [List.map_cons, deref_py q, derefL_py q2]
theorem derefT_py {μ : Mem} {d : D} {p : PyData} (h : (deref μ d).py = some p) : (derefT μ d).py = some p := by
  cases d with
  | tup ds =>
    have h2 : (D.pyL ds).map PyData.tuple = some p := h
    cases q : D.pyL ds with
    | none => rw [q] at h2; cases h2
    | some ps =>
      show (D.pyL (ds.map (deref μ))).map PyData.tuple = some p
      rw [derefL_py q]
      exact h2
  | _ => exact h
/-- the items of a list -/
def lstOf (μ : Mem) (d : D) : Option (List D) := match deref μ d with
  | .list ds => some ds
  | .ro ds => some ds
  | _ => none
def seqOf (μ : Mem) (d : D) : Option (List D) := match deref μ d with
  | .list ds => some ds
  | .ro ds => some ds
  | .tup ds => some ds
  | _ => none
def keyD : D → Option Key
  | .int i => some (.inl i)
  | .str x => some (.inr x)
  | _ => none
def kLook {α : Type} (kvs : List (Key × α)) (k : Key) : Option α := (kvs.find? fun kv => decide (kv.1 = k)).map (·.2)
def kPut {α : Type} (kvs : List (Key × α)) (k : Key) (v : α) : List (Key × α) :=
  if (kvs.any fun kv => decide (kv.1 = k)) = true then kvs.map (fun kv => if kv.1 = k then (kv.1, v) else kv) else kvs ++ [(k, v)]
def dicOf (μ : Mem) : D → Option (List (Key × D))
  | .ref a => match μ a with
    | some (.dK ks ds) => some (ks.zip ds)
    | _ => none
  | .dict ks ds => some (ks.zip ds)
  | _ => none
/-- a new list: one that may change, or one that does not -/
def newL (m : Bool) (ds : List D) (μ : Mem) (Φ : AQ) : Prop := if m = true then ∀ a, μ a = none → Φ (.ref a) (mset μ a (.lst ds)) else Φ (.list ds) μ
def newK (m : Bool) (kvs : List (Key × D)) (μ : Mem) (Φ : AQ) : Prop := if m = true then ∀ a, μ a = none → Φ (.ref a) (mset μ a (.dK (kvs.map (·.1)) (kvs.map (·.2)))) else Φ (.dict (kvs.map (·.1)) (kvs.map (·.2))) μ

def isNon : D → Bool
  | .non => true
  | _ => false
/-- what divides: no more than sixty figures -/
def CDivX (_ j : Int) : Prop := 0 < j ∧ j ≤ 1000000000000000000000000000000000000000000000000000000000000
/-! ### operators by values -/
def binS (m : Bool) (op : Operator) (x y : D) (μ : Mem) (Φ : AQ) : Prop := match op, x, y with
  | .Add, .int i, .int j => Φ (.int (i + j)) μ
  | .Sub, .int i, .int j => Φ (.int (i - j)) μ
  | .Mult, .int i, .int j => CMul i j ∧ Φ (.int (i * j)) μ
  | .Mult, .str s, .int j => (s.length ≤ 1000 ∧ 0 ≤ j ∧ j ≤ 1000) ∧ Φ (.str (Txt.mul s j)) μ
  | .FloorDiv, .int i, .int j => CDivX i j ∧ Φ (.int (i / j)) μ
  | .Mod, .int i, .int j => 0 < j ∧ Φ (.int (i % j)) μ
  | .Pow, .int i, .int j => CPow i j ∧ Φ (.int (i ^ j.toNat)) μ
  | .Add, .str s, .str t => s.length + t.length ≤ sizeLine ∧ Φ (.str (s ++ t)) μ
  | .Add, x, y => match deref μ x, deref μ y with
    | .list xs, .list ys => xs.length + ys.length ≤ sizeLine ∧ newL m (xs ++ ys) μ Φ
    | .tup xs, .tup ys => xs ≠ [] ∧ xs.length + ys.length ≤ sizeLine ∧ Φ (.tup (xs ++ ys)) μ
    | _, _ => False
  | _, _, _ => False
/-- == of data -/
def eqS (μ : Mem) (x y : D) (k : Bool → Prop) : Prop := ∃ d e, (derefT μ x).py = some d ∧ (derefT μ y).py = some e ∧ SeqAt.shaped d = true ∧ SeqAt.shaped e = true ∧ k (PyData.eqv d e)
/-- x in y, of no dict: a sign in a text, data in a list -/
def inL (x y : D) (μ : Mem) (k : Bool → Prop) : Prop := match x, y with
  | .str i, .str j => (match i.cps.toList with
    | [c] => i = ⟨#[c]⟩ ∧ k (decide (c ∈ j.cps.toList))
    | _ => False)
  | x, y => ∃ d es, (deref μ x).py = some d ∧ ((deref μ y).py = some (.list es) ∨ (deref μ y).py = some (.tuple es)) ∧ d.depth ≤ 60 ∧ SeqAt.shaped d = true ∧ SeqAt.shaped (.list es) = true ∧ k (es.any fun z => PyData.eqv z d)
def cmpS (op : CmpOp) (x y : D) (μ : Mem) (Φ : AQ) : Prop := match op, x, y with
  | .Lt, .int i, .int j => Φ (.bl (decide (i < j))) μ
  | .LtE, .int i, .int j => Φ (.bl (decide (i ≤ j))) μ
  | .Gt, .int i, .int j => Φ (.bl (decide (j < i))) μ
  | .GtE, .int i, .int j => Φ (.bl (decide (j ≤ i))) μ
  | .Eq, .int i, .int j => Φ (.bl (decide (i = j))) μ
  | .NotEq, .int i, .int j => Φ (.bl (!decide (i = j))) μ
  | .Eq, .str i, .str j => Φ (.bl (decide (i = j))) μ
  | .NotEq, .str i, .str j => Φ (.bl (!decide (i = j))) μ
  | .Is, x, .non => Φ (.bl (isNon x)) μ
  | .IsNot, x, .non => Φ (.bl (!isNon x)) μ
  | .Is, .bl a, .bl b => Φ (.bl (decide (a = b))) μ
  | .IsNot, .bl a, .bl b => Φ (.bl (!decide (a = b))) μ
  | .In, x, y => (match dicOf μ y, keyD x with
    | some kvs, some k => Φ (.bl (kLook kvs k).isSome) μ
    | _, _ => inL x y μ fun b => Φ (.bl b) μ)
  | .NotIn, x, y => (match dicOf μ y, keyD x with
    | some kvs, some k => Φ (.bl (!(kLook kvs k).isSome)) μ
    | _, _ => inL x y μ fun b => Φ (.bl (!b)) μ)
  | .Eq, x, y => eqS μ x y fun b => Φ (.bl b) μ
  | .NotEq, x, y => eqS μ x y fun b => Φ (.bl (!b)) μ
  | _, _, _ => False
/-- a[i] -/
def subS (x i : D) (μ : Mem) (Φ : AQ) : Prop := match seqOf μ x, i with
  | some ds, .int j => (match atI ds j with
    | some d => Φ d μ
    | none => False)
  | _, _ => match dicOf μ x, keyD i with
    | some kvs, some k => (match kLook kvs k with
      | some d => Φ d μ
      | none => False)
    | _, _ => (match x, i with
      | .str s, .int j => s.length ≤ sizeLine ∧ (match atI s.cps.toList j with
        | some c => Φ (.str ⟨#[c]⟩) μ
        | none => False)
      | _, _ => False)
/-- truth -/
def truS (μ : Mem) (d : D) : Option Bool := match d with
  | .bl b => some b
  | _ => none

/-! ### built-in functions -/
inductive BF where
  | len | min2 | max2 | abs | divmod | repr | str1 | int1 | all | any | sum | sorted | list (m : Bool) | tuple | bool1
  deriving DecidableEq
def bfName : BF → Str
  | .len => "len" | .min2 => "min" | .max2 => "max" | .abs => "abs" | .divmod => "divmod" | .repr => "repr" | .str1 => "str" | .int1 => "int" | .all => "all" | .any => "any" | .sum => "sum"
  | .sorted => "sorted" | .list _ => "list" | .tuple => "tuple" | .bool1 => "bool"
def allBl : List D → Option (List Bool)
  | [] => some []
  | .bl b :: r => (allBl r).map (b :: ·)
  | _ :: _ => none
def allInt : List D → Option (List Int)
  | [] => some []
  | .int b :: r => (allInt r).map (b :: ·)
  | _ :: _ => none
def bfS (f : BF) (xs : List D) (μ : Mem) (Φ : AQ) : Prop := match f, xs with
  | .len, [.str s] => s.length ≤ sizeLine ∧ Φ (.int s.length) μ
  | .len, [x] => (match seqOf μ x with
    | some ds => Φ (.int ds.length) μ
    | none => False)
  | .min2, [.int i, .int j] => Φ (.int (if j < i then j else i)) μ
  | .max2, [.int i, .int j] => Φ (.int (if j > i then j else i)) μ
  | .abs, [.int i] => Φ (.int (if i < 0 then -i else i)) μ
  | .divmod, [.int i, .int j] => CDivX i j ∧ Φ (.tup [.int (i / j), .int (i % j)]) μ
  | .int1, [.int i] => Φ (.int i) μ
  | .int1, [.bl b] => Φ (.int (if b then 1 else 0)) μ
  | .int1, [.str a] => (match PySem.intText? a with
    | some n => a.length ≤ 640 ∧ Φ (.int n) μ
    | none => False)
  | .str1, [.str a] => Φ (.str a) μ
  | .str1, [.int i] => i.natAbs.log2 < 1920 ∧ Φ (.str (toString i)) μ
  | .repr, [x] => ∃ d, (derefT μ x).py = some d ∧ d.showable = true ∧ d.depth ≤ 60 ∧ d.shown.length ≤ sizeLine ∧ Φ (.str d.shown) μ
  | .all, [x] => (match (lstOf μ x).bind allBl with
    | some bs => Φ (.bl (bs.all id)) μ
    | none => False)
  | .any, [x] => (match (lstOf μ x).bind allBl with
    | some bs => Φ (.bl (bs.any id)) μ
    | none => False)
  | .sum, [x] => (match (lstOf μ x).bind allInt with
    | some ns => Φ (.int ns.sum) μ
    | none => False)
  | .sorted, [x] => (match (lstOf μ x).bind allInt with
    | some ns => ns.length < 64 ∧ ∀ ns' : List Int, ns'.Perm ns → ns'.Pairwise (· ≤ ·) → Φ (.list (ns'.map .int)) μ
    | none => False)
  | .list m, [x] => (match seqOf μ x with
    | some ds => newL m ds μ Φ
    | none => False)
  | .tuple, [.tup ds] => Φ (.tup ds) μ
  | .tuple, [x] => (match lstOf μ x with
    | some ds => Φ (.tup ds) μ
    | none => False)
  | _, _ => False
/-! ### methods of built-in types -/
inductive BM where
  | append | clear | update | split (m : Bool) | join | removep | pop
  deriving DecidableEq
def bmName : BM → Str
  | .append => "append" | .clear => "clear" | .update => "update" | .split _ => "split" | .join => "join" | .removep => "removeprefix" | .pop => "pop"
def allStr : List D → Option (List Str)
  | [] => some []
  | .str b :: r => (allStr r).map (b :: ·)
  | _ :: _ => none
/-- what the receiver must be, ahead of the arguments -/
def bmTy (f : BM) (μ : Mem) (x : D) : Prop := match x with
  | .ref a => (match f, μ a with
    | .append, some (.lst _) => True
    | .clear, some (.lst _) => True
    | .pop, some (.lst _) => True
    | .update, some (.dK _ _) => True
    | _, _ => False)
  | .str _ => (match f with
    | .split _ => True
    | .join => True
    | .removep => True
    | _ => False)
  | _ => False
def bmS (f : BM) (x : D) (xs : List D) (μ : Mem) (Φ : AQ) : Prop := match x with
  | .ref a => (match f, xs, μ a with
    | .append, [y], some (.lst ds) => ds.length < sizeLine ∧ Φ .non (mset μ a (.lst (ds ++ [y])))
    | .clear, [], some (.lst _) => Φ .non (mset μ a (.lst []))
    | .pop, [], some (.lst ds) => (match ds.getLast? with
      | some d => Φ d (mset μ a (.lst ds.dropLast))
      | none => False)
    | .update, [.dict ks ds], some (.dK ks0 ds0) => (ks0 ++ ks).Nodup ∧ ks.length = ds.length ∧ ks0.length = ds0.length ∧ (ks0 ++ ks).length ≤ 1000 ∧ Φ .non (mset μ a (.dK (ks0 ++ ks) (ds0 ++ ds)))
    | _, _, _ => False)
  | .str s => (match f, xs with
    | .split m, [.str b] => (b.length == 0) = false ∧ s.length + 2 ≤ sizeLine ∧ newL m ((Txt.split s b).map .str) μ Φ
    | .join, [x] => (match (seqOf μ x).bind allStr with
      | some ys => (ys.map (·.length)).sum + ys.length * s.length ≤ 16777216 ∧ Φ (.str (Txt.join s ys)) μ
      | none => False)
    | .removep, [.str b] => s.length ≤ sizeLine ∧ Φ (.str (Txt.removeprefix s b)) μ
    | _, _ => False)
  | _ => False

/-! ### isinstance -/
inductive IC where
  | ty (n : String) | own (c : Nat)
  deriving DecidableEq
/-- a value's built-in type, by its worth -/
def tyD (μ : Mem) : D → Option String
  | .non => some "NoneType"
  | .bl _ => some "bool"
  | .int _ => some "int"
  | .str _ => some "str"
  | .tup _ => some "tuple"
  | .list _ => some "list"
  | .ro _ => some "list"
  | .dict _ _ => some "dict"
  | .ref a => (match μ a with
    | some (.lst _) => some "list"
    | some (.dK _ _) => some "dict"
    | _ => none)
  | _ => none

/-! ### the core -/
mutual
inductive CE where
  | var (i : Nat) | con (d : D) | glo (x : Str)
  | bin (m : Bool) (op : Operator) (a b : CE) | neg (a : CE)
  | cmp (op : CmpOp) (a b : CE) | chain (o1 o2 : CmpOp) (a b c : CE)
  | bop (o : BoolOp) (es : CEs) | not (a : CE) | ite (t a b : CE)
  | tup (es : CEs) | lst (m : Bool) (es : CEs) | dct (m : Bool) (ks : List Key) (vs : CEs)
  | sub (a i : CE) | slc (a : CE) (lo hi : CO)
  | blt (f : BF) (es : CEs) | isi (a : CE) (tup : Bool) (ts : List IC)
  | call (f : Nat) (es : CEs) | kcall (f j : Nat) (es : CEs) | meth (o : CE) (m : Nat) (es : CEs) | new (c : Nat) (es : CEs) | leno (a : CE)
  | bm (f : BM) (o : CE) (es : CEs) | attr (o : CE) (f : Nat)
  | comp (m : Bool) (elt : CE) (tg : CT) (own : List (Str × Nat)) (it : CI) (cs : CEs)
  | gdget (x : Str) (i : CE) | gdin (neg : Bool) (x : Str) (i : CE) | frz (e : CE)
  | xisi (i : Nat) (tup : Bool) (ts : List IC) | xattr (i : Nat) (f : Nat) | no
inductive CEs where
  | nil | cons (e : CE) (es : CEs)
inductive CO where
  | no | some (e : CE)
inductive CT where
  | nm (i : Nat) | sub (a i : CE) | att (o : CE) (f : Nat) | tup (ts : CTs) | star (i j : Nat)
inductive CTs where
  | nil | cons (t : CT) (ts : CTs)
inductive CI where
  | seq (e : CE) | range1 (e : CE) | range2 (a b : CE) | enum (e : CE) | zip (a b : CE)
end
mutual
inductive CS where
  | asg (t : CT) (e : CE) | par (i j : Nat) (a b : CE) | aug (i : Nat) (op : Operator) (e : CE) | ex (e : CE) | pass | brk | cont
  | ite (t : CE) (a b : CSs) | for_ (t : CT) (it : CI) (b : CSs) | while_ (t : CE) (b : CSs)
  | ret (e : CE) | retN | fz (i : Nat) | raise (c : Nat) (a : Option CE) | try_ (b : CSs) (c : Nat) (i : Nat) (h : CSs) | tryT (b : CSs) | tryN (b : CSs) (c : Nat) (h : CSs) | no
inductive CSs where
  | nil | cons (s : CS) (ss : CSs)
end

/-- the text's tables, by numbers -/
structure Fdef where
  at_ : Str × Option Str
  name : Str
  qual : Str
  st : Stmt
  N : List Str
  ps : List Str
  body : CSs
  /-- keyword-only parameters, the last ones of ps: their defaults -/
  kw : List (Str × D) := []
  /-- calls by names alone: the names as written, for each parameter (but those of kw) its place among them -/
  kcs : List (List Str × List Nat) := []
structure Tbl where
  fs : List Fdef
  cls : List Str
  flds : List Str
  mths : List Str
  methL : List ((Nat × Nat) × Nat)
  initL : List (Nat × Nat)
  lenL : List (Nat × Nat)
  eqL : List (Nat × Nat)
  /-- own exceptions: their class's own __init__ takes one argument, kept as this field -/
  excL : List (Nat × Option Nat)
  /-- is an exception of the one class one of the other (own) -/
  subL : List ((Nat × Nat) × Bool)
  isXL : List ((Nat × IC) × Bool)
  isIL : List ((Nat × IC) × Bool)
  gdsL : List (Str × List (Str × D))
  /-- constants of the top -/
  gloL : List (Str × D)
def Tbl.meth (T : Tbl) (c m : Nat) : Option Nat := T.methL.lookup (c, m)
def Tbl.init (T : Tbl) (c : Nat) : Option Nat := T.initL.lookup c
def Tbl.lenF (T : Tbl) (c : Nat) : Option Nat := T.lenL.lookup c
def Tbl.eqF (T : Tbl) (c : Nat) : Option Nat := T.eqL.lookup c
def Tbl.excF (T : Tbl) (c : Nat) : Option (Option Nat) := T.excL.lookup c
def Tbl.subX (T : Tbl) (c d : Nat) : Option Bool := T.subL.lookup (c, d)
def Tbl.isX (T : Tbl) (c : Nat) (i : IC) : Option Bool := T.isXL.lookup (c, i)
def Tbl.isI (T : Tbl) (c : Nat) (i : IC) : Option Bool := T.isIL.lookup (c, i)
def Tbl.glo (T : Tbl) (x : Str) : Option D := T.gloL.lookup x
def Tbl.gds (T : Tbl) (x : Str) : Option (List (Str × D)) := T.gdsL.lookup x

def CTs.len : CTs → Nat
  | .nil => 0
  | .cons _ ts => ts.len + 1
/-- a call: the def's number, the arguments, what is wanted of the value, of an exception -/
abbrev ACall := Nat → List D → Mem → AQ → AX → Prop

def getSlot (ρ : Env) (i : Nat) : Option D := match ρ[i]? with
  | some (some d) => if isX d = true then none else some d
  | _ => none
def getX (ρ : Env) (i : Nat) : Option (Nat × List Nat × List D) := match ρ[i]? with
  | some (some (.exn c fs ds)) => some (c, fs, ds)
  | _ => none
def setF (f : Nat) (d : D) : List (Nat × D) → List (Nat × D)
  | [] => [(f, d)]
  | (g, e) :: r => if g = f then (f, d) :: r else (g, e) :: setF f d r
def isiS (T : Tbl) (μ : Mem) (d : D) (c : IC) : Option Bool := match tyD μ d with
  | some t => (match c with
    | .ty n => kitB t n
    | .own _ => some false)
  | none => match d with
    | .ref a => (match μ a with
      | some (.ins k _) => T.isI k c
      | _ => none)
    | _ => none
def isiA (T : Tbl) (μ : Mem) (d : D) : List IC → Option Bool
  | [] => some false
  | c :: cs => match isiS T μ d c with
    | some true => some true
    | some false => isiA T μ d cs
    | none => none
/-- isinstance of a held exception -/
def isxA (T : Tbl) (k : Nat) : List IC → Option Bool
  | [] => some false
  | c :: cs => match T.isX k c with
    | some true => some true
    | some false => isxA T k cs
    | none => none
/-- a slot set, names of a comprehension forgotten -/
def wipeE (ρ : Env) : List Nat → Env
  | [] => ρ
  | v :: vs => (wipeE ρ vs).set v none
/-- a value whose type is known -/
def eqOk (T : Tbl) (μ : Mem) (y : D) : Prop := match tyD μ y with
  | some _ => True
  | none => match y with
    | .ref a => (match μ a with
      | some (.ins c _) => (T.init c).isSome = true
      | _ => False)
    | _ => False
/-- a comparison, by an own == too -/
def cmpC (T : Tbl) (call : ACall) (op : CmpOp) (x y : D) (μ : Mem) (Φ : AQ) (Ψ : AX) : Prop := match op, x with
  | .Eq, .ref a => (match μ a with
    | some (.ins c _) => (match T.eqF c with
      | some f => eqOk T μ y ∧ call f [x, y] μ (fun r μ' => ∃ b, r = .bl b ∧ Φ (.bl b) μ') Ψ
      | none => False)
    | _ => cmpS op x y μ Φ)
  | .NotEq, .ref a => (match μ a with
    | some (.ins c _) => (match T.eqF c with
      | some f => eqOk T μ y ∧ call f [x, y] μ (fun r μ' => ∃ b, r = .bl b ∧ Φ (.bl (!b)) μ') Ψ
      | none => False)
    | _ => cmpS op x y μ Φ)
  | _, _ => cmpS op x y μ Φ
/-- what changes no more -/
def frz (d : D) (μ : Mem) (k : D → Mem → Prop) : Prop := match d with
  | .ref a => (match μ a with
    | some (.lst ds) => k (.list ds) (mdel μ a)
    | some (.dK ks ds) => k (.dict ks ds) (mdel μ a)
    | _ => False)
  | _ => k d μ
/-- a target raises nothing -/
abbrev ATg := D → Env → Mem → (Env → Mem → Prop) → Prop
abbrev noX : AX := fun _ _ _ => False
/-- what zip may walk -/
def zSrc : D → Option (List D)
  | .list ds => some ds
  | .ro ds => some ds
  | .tup ds => some ds
  | .str s => some (s.cps.toList.map fun c => D.str ⟨#[c]⟩)
  | _ => none
/-- the items that are walked; what must stand at each turn -/
abbrev AI := Env → Mem → (List D → (Mem → Prop) → Mem → Prop) → AX → Prop
def compL (tg : ATg) (elt : AE) (tst : AT) (G : Mem → Prop) : List D → List D → Env → Mem → (List D → Mem → Prop) → Prop
  | [], acc, _, μ, Κ => G μ ∧ Κ acc μ
  | x :: xs, acc, ρ, μ, Κ => G μ ∧ tg x ρ μ (fun ρ1 μ1 => tst ρ1 μ1 (fun b μ2 => if b = true then elt ρ1 μ2 (fun d μ3 => acc.length < 1000000 ∧ compL tg elt tst G xs (acc ++ [d]) ρ μ3 Κ) noX else compL tg elt tst G xs acc ρ μ2 Κ) noX)
section
variable (T : Tbl) (call : ACall)
mutual
def wE : CE → AE
  | .var i, ρ, μ, Φ, _ => (match getSlot ρ i with
    | some d => Φ d μ
    | none => False)
  | .con d, _, μ, Φ, _ => Φ d μ
  | .glo x, _, μ, Φ, _ => (match T.glo x with
    | some d => Φ d μ
    | none => False)
  | .bin m op a b, ρ, μ, Φ, Ψ => wE a ρ μ (fun x μ1 => wE b ρ μ1 (fun y μ2 => binS m op x y μ2 Φ) Ψ) Ψ
  | .neg a, ρ, μ, Φ, Ψ => wE a ρ μ (fun x μ1 => match x with
    | .int i => Φ (.int (-i)) μ1
    | _ => False) Ψ
  | .cmp op a b, ρ, μ, Φ, Ψ => wE a ρ μ (fun x μ1 => wE b ρ μ1 (fun y μ2 => cmpC T call op x y μ2 Φ Ψ) Ψ) Ψ
  | .chain o1 o2 a b c, ρ, μ, Φ, Ψ => wE a ρ μ (fun x μ1 => wE b ρ μ1 (fun y μ2 => cmpS o1 x y μ2 (fun r μ3 => match r with
    | .bl true => wE c ρ μ3 (fun z μ4 => cmpS o2 y z μ4 Φ) Ψ
    | .bl false => Φ (.bl false) μ3
    | _ => False)) Ψ) Ψ
  | .bop o es, ρ, μ, Φ, Ψ => wB o es ρ μ Φ Ψ
  | .not a, ρ, μ, Φ, Ψ => wE a ρ μ (fun x μ1 => match x with
    | .bl b => Φ (.bl (!b)) μ1
    | _ => False) Ψ
  | .ite t a b, ρ, μ, Φ, Ψ => wE t ρ μ (fun k μ1 => match k with
    | .bl true => wE a ρ μ1 Φ Ψ
    | .bl false => wE b ρ μ1 Φ Ψ
    | _ => False) Ψ
  | .tup es, ρ, μ, Φ, Ψ => wEs es ρ μ (fun ds μ1 => ds.length ≤ 1000 ∧ Φ (.tup ds) μ1) Ψ
  | .lst m es, ρ, μ, Φ, Ψ => wEs es ρ μ (fun ds μ1 => ds.length ≤ 1000 ∧ newL m ds μ1 Φ) Ψ
  | .dct m ks vs, ρ, μ, Φ, Ψ => wEs vs ρ μ (fun ds μ1 => ds.length = ks.length ∧ newK m (ks.zip ds) μ1 Φ) Ψ
  | .sub a i, ρ, μ, Φ, Ψ => wE a ρ μ (fun x μ1 => wE i ρ μ1 (fun y μ2 => subS x y μ2 Φ) Ψ) Ψ
  | .slc a lo hi, ρ, μ, Φ, Ψ => wE a ρ μ (fun x μ1 => wO lo ρ μ1 (fun l μ2 => wO hi ρ μ2 (fun h μ3 => match deref μ3 x with
    | .list ds => Φ (.list ((ds.drop (HT.sIx ds.length 0 l)).take (HT.sIx ds.length ds.length h - HT.sIx ds.length 0 l))) μ3
    | .tup ds => (ds.drop (HT.sIx ds.length 0 l)).take (HT.sIx ds.length ds.length h - HT.sIx ds.length 0 l) ≠ ds ∧ Φ (.tup ((ds.drop (HT.sIx ds.length 0 l)).take (HT.sIx ds.length ds.length h - HT.sIx ds.length 0 l))) μ3
    | .str s => s.length ≤ sizeLine ∧ Φ (.str (cutS s l h)) μ3
    | _ => False) Ψ) Ψ) Ψ
  | .blt f es, ρ, μ, Φ, Ψ => wEs es ρ μ (fun ds μ1 => bfS f ds μ1 Φ) Ψ
  | .isi a _ ts, ρ, μ, Φ, Ψ => wE a ρ μ (fun x μ1 => match isiA T μ1 x ts with
    | some b => Φ (.bl b) μ1
    | none => False) Ψ
  | .call f es, ρ, μ, Φ, Ψ => wEs es ρ μ (fun ds μ1 => call f ds μ1 Φ Ψ) Ψ
  | .kcall f j es, ρ, μ, Φ, Ψ => wEs es ρ μ (fun ds μ1 => match T.fs[f]? with
    | some fd => (match fd.kcs[j]? with
      | some kc => ds.length = kc.1.length ∧ call f (kc.2.map fun i => ds.getD i .non) μ1 Φ Ψ
      | none => False)
    | none => False) Ψ
  | .meth o m es, ρ, μ, Φ, Ψ => wE o ρ μ (fun x μ1 => match x with
    | .ref a => (match μ1 a with
      | some (.ins c _) => (match T.meth c m with
        | some f => wEs es ρ μ1 (fun ds μ2 => call f (.ref a :: ds) μ2 Φ Ψ) Ψ
        | none => False)
      | _ => False)
    | _ => False) Ψ
  | .new c es, ρ, μ, Φ, Ψ => wEs es ρ μ (fun ds μ1 => match T.init c with
    | some f => ∀ a, μ1 a = none → call f (.ref a :: ds) (mset μ1 a (.ins c [])) (fun r μ2 => (match r with
      | .non => Φ (.ref a) μ2
      | _ => False)) Ψ
    | none => False) Ψ
  | .leno o, ρ, μ, Φ, Ψ => wE o ρ μ (fun x μ1 => match x with
    | .ref a => (match μ1 a with
      | some (.ins c _) => (match T.lenF c with
        | some f => call f [x] μ1 (fun r μ2 => ∃ n : Nat, r = .int n ∧ n ≤ 16777216 ∧ Φ r μ2) Ψ
        | none => False)
      | _ => False)
    | _ => False) Ψ
  | .bm f o es, ρ, μ, Φ, Ψ => wE o ρ μ (fun x μ1 => bmTy f μ1 x ∧ wEs es ρ μ1 (fun ds μ2 => bmS f x ds μ2 Φ) Ψ) Ψ
  | .attr o f, ρ, μ, Φ, Ψ => wE o ρ μ (fun x μ1 => match x with
    | .ref a => (match μ1 a with
      | some (.ins c fs) => (match T.init c, fs.lookup f with
        | some _, some d => Φ d μ1
        | _, _ => False)
      | _ => False)
    | _ => False) Ψ
  | .xisi i _ ts, ρ, μ, Φ, _ => (match getX ρ i with
    | some (k, _, _) => (match isxA T k ts with
      | some b => Φ (.bl b) μ
      | none => False)
    | none => False)
  | .xattr i f, ρ, μ, Φ, _ => (match getX ρ i with
    | some (c, fs, ds) => (match T.excF c with
      | some _ => (match (fs.zip ds).lookup f with
        | some d => Φ d μ
        | none => False)
      | none => False)
    | none => False)
  | .comp m elt tg own it cs, ρ, μ, Φ, Ψ => wI it ρ μ (fun items G μ1 => compL (wTg tg) (wE elt) (wTs cs) G items [] (wipeE ρ (own.map (·.2))) μ1 (fun ds μ2 => newL m ds μ2 Φ)) Ψ
  | .gdget x i, ρ, μ, Φ, Ψ => wE i ρ μ (fun y μ1 => match T.gds x, y with
    | some kvs, .str z => (match kvs.lookup z with
      | some d => Φ d μ1
      | none => False)
    | _, _ => False) Ψ
  | .gdin neg x i, ρ, μ, Φ, Ψ => wE i ρ μ (fun y μ1 => match T.gds x, y with
    | some kvs, .str z => Φ (.bl (if neg = true then !(kvs.lookup z).isSome else (kvs.lookup z).isSome)) μ1
    | _, _ => False) Ψ
  | .frz a, ρ, μ, Φ, Ψ => wE a ρ μ (fun d μ1 => frz d μ1 Φ) Ψ
  | .no, _, _, _, _ => False
def wEs : CEs → AEs
  | .nil, _, μ, Φ, _ => Φ [] μ
  | .cons e es, ρ, μ, Φ, Ψ => wE e ρ μ (fun d μ1 => wEs es ρ μ1 (fun ds μ2 => Φ (d :: ds) μ2) Ψ) Ψ
/-- and, or as a value: True and False alone, but the last -/
def wB : BoolOp → CEs → AE
  | _, .nil, _, _, _, _ => False
  | o, .cons e es, ρ, μ, Φ, Ψ => (match es with
    | .nil => wE e ρ μ Φ Ψ
    | .cons _ _ => wE e ρ μ (fun d μ1 => match d with
      | .bl b => (match o with
        | .And => if b = true then wB o es ρ μ1 Φ Ψ else Φ (.bl false) μ1
        | .Or => if b = true then Φ (.bl true) μ1 else wB o es ρ μ1 Φ Ψ)
      | _ => False) Ψ)
/-- a comprehension's tests: none or one -/
def wTs : CEs → AT
  | .nil, _, μ, Φ, _ => Φ true μ
  | .cons e es, ρ, μ, Φ, Ψ => (match es with
    | .nil => wE e ρ μ (fun d μ1 => match d with
      | .bl b => Φ b μ1
      | _ => False) Ψ
    | .cons _ _ => False)
def wO : CO → Env → Mem → (Option Int → Mem → Prop) → AX → Prop
  | .no, _, μ, Φ, _ => Φ none μ
  | .some e, ρ, μ, Φ, Ψ => wE e ρ μ (fun d μ1 => match d with
    | .int i => Φ (some i) μ1
    | _ => False) Ψ
def wTg : CT → ATg
  | .nm i, v, ρ, μ, N => N (ρ.set i (some v)) μ
  | .sub o i, v, ρ, μ, N => wE o ρ μ (fun x μ1 => wE i ρ μ1 (fun y μ2 => match x with
    | .ref a => (match μ2 a with
      | some (.lst ds) => (match y with
        | .int k => (match ixN ds.length k with
          | some j => N ρ (mset μ2 a (.lst (ds.set j v)))
          | none => False)
        | _ => False)
      | some (.dK ks ds) => (match keyD y with
        | some k => ks.length < 1000 ∧ N ρ (mset μ2 a (.dK ((kPut (ks.zip ds) k v).map (·.1)) ((kPut (ks.zip ds) k v).map (·.2))))
        | none => False)
      | _ => False)
    | _ => False) noX) noX
  | .att o f, v, ρ, μ, N => wE o ρ μ (fun x μ1 => match x with
    | .ref a => (match μ1 a with
      | some (.ins c fs) => (match T.init c with
        | some _ => fs.length < 900 ∧ f < T.flds.length ∧ N ρ (mset μ1 a (.ins c (setF f v fs)))
        | none => False)
      | _ => False)
    | _ => False) noX
  | .tup ts, v, ρ, μ, N => (match v with
    | .tup ds => ds.length = ts.len ∧ wTgs ts ds ρ μ N
    | _ => False)
  | .star i j, v, ρ, μ, N => (match v with
    | .tup (d :: ds) => N ((ρ.set i (some d)).set j (some (.list ds))) μ
    | .list (d :: ds) => N ((ρ.set i (some d)).set j (some (.list ds))) μ
    | _ => False)
def wTgs : CTs → List D → Env → Mem → (Env → Mem → Prop) → Prop
  | .nil, ds, ρ, μ, N => (match ds with
    | [] => N ρ μ
    | _ :: _ => False)
  | .cons t ts, ds, ρ, μ, N => (match ds with
    | [] => False
    | d :: r => wTg t d ρ μ (fun ρ1 μ1 => wTgs ts r ρ1 μ1 N))
def wI : CI → AI
  | .seq e, ρ, μ, R, Ψ => wE e ρ μ (fun x μ1 => match x with
    | .list ds => R ds (fun _ => True) μ1
    | .ro ds => R ds (fun _ => True) μ1
    | .tup ds => R ds (fun _ => True) μ1
    | .str s => R (s.cps.toList.map fun c => D.str ⟨#[c]⟩) (fun _ => True) μ1
    | .ref a => (match μ1 a with
      | some (.lst ds) => R ds (fun μ => μ a = some (.lst ds)) μ1
      | _ => False)
    | _ => False) Ψ
  | .range1 e, ρ, μ, R, Ψ => wE e ρ μ (fun x μ1 => match x with
    | .int n => -(2 ^ 62) ≤ n ∧ n < 2 ^ 62 ∧ R ((List.range n.toNat).map fun (i : Nat) => D.int (i : Int)) (fun _ => True) μ1
    | _ => False) Ψ
  | .range2 a b, ρ, μ, R, Ψ => wE a ρ μ (fun x μ1 => wE b ρ μ1 (fun y μ2 => match x, y with
    | .int n, .int m => (-(2 ^ 62) ≤ n ∧ n < 2 ^ 62 ∧ -(2 ^ 62) ≤ m ∧ m < 2 ^ 62) ∧ R ((List.range (m - n).toNat).map fun (i : Nat) => D.int (n + (i : Int))) (fun _ => True) μ2
    | _, _ => False) Ψ) Ψ
  | .enum e, ρ, μ, R, Ψ => wE e ρ μ (fun x μ1 => match x with
    | .list ds => R (ds.zipIdx.map fun p => .tup [.int (p.2 : Int), p.1]) (fun _ => True) μ1
    | .ro ds => R (ds.zipIdx.map fun p => .tup [.int (p.2 : Int), p.1]) (fun _ => True) μ1
    | .ref a => (match μ1 a with
      | some (.lst ds) => R (ds.zipIdx.map fun p => .tup [.int (p.2 : Int), p.1]) (fun μ => μ a = some (.lst ds)) μ1
      | _ => False)
    | _ => False) Ψ
  | .zip a b, ρ, μ, R, Ψ => wE a ρ μ (fun x μ1 => wE b ρ μ1 (fun y μ2 => match zSrc x, zSrc y with
    | some xs, some ys => R ((xs.zip ys).map fun p => .tup [p.1, p.2]) (fun _ => True) μ2
    | _, _ => False) Ψ) Ψ
end
/-- a test -/
def wT (e : CE) : AT := fun ρ μ Φ Ψ => wE T call e ρ μ (fun d μ1 => match d with
  | .bl b => Φ b μ1
  | _ => False) Ψ
/-- what is wanted behind a statement -/
structure AEnds where
  nx : Env → Mem → Prop
  rt : D → Mem → Prop
  bk : Env → Mem → Prop := fun _ _ => False
  ct : Env → Mem → Prop := fun _ _ => False
  ex : Nat → List (Nat × D) → Env → Mem → Prop
abbrev ASt := AEnds → Env → Mem → Prop
def forL (tg : ATg) (bd : ASt) (G : Mem → Prop) : List D → ASt
  | [], D, ρ, μ => G μ ∧ D.nx ρ μ
  | x :: xs, D, ρ, μ => G μ ∧ tg x ρ μ (fun ρ1 μ1 => bd { D with nx := forL tg bd G xs D, ct := forL tg bd G xs D, bk := D.nx } ρ1 μ1)
def whileN (t : AT) (bd : ASt) : Nat → ASt
  | 0, _, _, _ => False
  | n + 1, D, ρ, μ => t ρ μ (fun b μ1 => if b = true then bd { D with nx := whileN t bd n D, ct := whileN t bd n D, bk := D.nx } ρ μ1 else D.nx ρ μ1) (fun c fs μ1 => D.ex c fs ρ μ1)
mutual
def wS : CS → ASt
  | .asg t e, D, ρ, μ => wE T call e ρ μ (fun d μ1 => wTg T call t d ρ μ1 D.nx) (fun c fs μ2 => D.ex c fs ρ μ2)
  | .par i j a b, D, ρ, μ => wE T call a ρ μ (fun x μ1 => wE T call b ρ μ1 (fun y μ2 => D.nx ((ρ.set i (some x)).set j (some y)) μ2) (fun c fs μ2 => D.ex c fs ρ μ2)) (fun c fs μ2 => D.ex c fs ρ μ2)
  | .aug i op e, D, ρ, μ => (match getSlot ρ i with
    | some (.int n) => wE T call e ρ μ (fun y μ1 => match op, y with
      | .Add, .int m => D.nx (ρ.set i (some (.int (n + m)))) μ1
      | .Sub, .int m => D.nx (ρ.set i (some (.int (n - m)))) μ1
      | _, _ => False) (fun c fs μ2 => D.ex c fs ρ μ2)
    | _ => False)
  | .ex e, D, ρ, μ => wE T call e ρ μ (fun _ μ1 => D.nx ρ μ1) (fun c fs μ2 => D.ex c fs ρ μ2)
  | .pass, D, ρ, μ => D.nx ρ μ
  | .brk, D, ρ, μ => D.bk ρ μ
  | .cont, D, ρ, μ => D.ct ρ μ
  | .ite t a b, D, ρ, μ => wT T call t ρ μ (fun k μ1 => if k = true then wSs a D ρ μ1 else wSs b D ρ μ1) (fun c fs μ2 => D.ex c fs ρ μ2)
  | .for_ t it b, D, ρ, μ => wI T call it ρ μ (fun items G μ1 => forL (wTg T call t) (wSs b) G items D ρ μ1) (fun c fs μ2 => D.ex c fs ρ μ2)
  | .while_ t b, D, ρ, μ => ∃ n, whileN (wT T call t) (wSs b) n D ρ μ
  | .ret e, D, ρ, μ => wE T call e ρ μ D.rt (fun c fs μ2 => D.ex c fs ρ μ2)
  | .retN, D, ρ, μ => D.rt .non μ
  | .fz i, D, ρ, μ => (match getSlot ρ i with
    | some d => frz d μ (fun d' μ' => D.nx (ρ.set i (some d')) μ')
    | none => False)
  | .raise c a, D, ρ, μ => (match T.excF c, a with
    | some none, none => D.ex c [] ρ μ
    | some (some f), some e => wE T call e ρ μ (fun d μ1 => D.ex c [(f, d)] ρ μ1) (fun c fs μ2 => D.ex c fs ρ μ2)
    | _, _ => False)
  | .try_ b c i h, D, ρ, μ => wSs b { D with ex := fun k fs ρ1 μ1 => match T.subX k c with
    | some true => wSs h { nx := fun ρ2 μ2 => D.nx (dropX (ρ2.set i none)) μ2, rt := D.rt, bk := fun ρ2 μ2 => D.bk (dropX (ρ2.set i none)) μ2, ct := fun ρ2 μ2 => D.ct (dropX (ρ2.set i none)) μ2, ex := fun _ _ _ _ => False } (ρ1.set i (some (.exn k (fs.map (·.1)) (fs.map (·.2))))) μ1
    | some false => D.ex k fs ρ1 μ1
    | none => False } ρ μ
  | .tryT b, D, ρ, μ => wSs b { D with ex := fun _ _ _ _ => False } ρ μ
  | .tryN b c h, D, ρ, μ => wSs b { D with ex := fun k fs ρ1 μ1 => match T.subX k c with
    | some true => wSs h { nx := fun ρ2 μ2 => D.nx (dropX ρ2) μ2, rt := D.rt, bk := fun ρ2 μ2 => D.bk (dropX ρ2) μ2, ct := fun ρ2 μ2 => D.ct (dropX ρ2) μ2, ex := fun _ _ _ _ => False } ρ1 μ1
    | some false => D.ex k fs ρ1 μ1
    | none => False } ρ μ
  | .no, _, _, _ => False
def wSs : CSs → ASt
  | .nil, D, ρ, μ => D.nx ρ μ
  | .cons s ss, D, ρ, μ => wS s { D with nx := wSs ss D } ρ μ
end
end
/-- a def called, so many calls deep at the most -/
def callN (T : Tbl) : Nat → ACall
  | 0, _, _, _, _, _ => False
  | n + 1, f, ds, μ, Φ, Ψ => match T.fs[f]? with
    | some fd => ds.length + fd.kw.length = fd.ps.length ∧ wSs T (callN T n) fd.body { nx := fun _ μ' => Φ .non μ', rt := Φ, ex := fun c fs _ μ' => Ψ c fs μ' } ((ds ++ fd.kw.map (·.2)).map some ++ List.replicate (fd.N.length - fd.ps.length) none) μ
    | none => False
end Fk
end
section
set_option maxHeartbeats 4000000
/-! Each operation by values is what the hand layer's rule does. -/
namespace Fk
open PySem PySem.Spec PyProof.Rows L2

def mkS (T : Tbl) (K : PySem.W.Frag) (hid : Addr → Prop) : Sg := ⟨K, fun c => He.ga K (T.cls.getD c ""), fun f => T.flds.getD f "", hid⟩

/-! ### data told to the library -/
section
variable {S : Sg} {μ : Mem} {H : Hp}
mutual
/-- data but dicts -/
theorem Dat.dp : ∀ {d : D} {v : V} {p : PyData}, Dat S μ H v d → d.py = some p → p.canLay0 = true → Dp S.K H v p
  | .non, _, _, .non, e, _ => by cases e; exact .non
  | .bl b, _, _, .bl _, e, _ => by cases e; exact .bl b
  | .int i, _, _, .int _, e, _ => by cases e; exact .int i
  | .str x, _, _, .str _, e, _ => by cases e; exact .str x
  | .ref _, _, _, _, e, _ => by cases e
  | .ty _, _, _, _, e, _ => by cases e
  | .tup ds, _, p, .tup h r, e, c => by
    have e' : (D.pyL ds).map PyData.tuple = some p := e
    cases q : D.pyL ds with
    | none => rw [q] at e'; cases e'
    | some xs =>
      rw [q] at e'
      cases e'
      exact .tup h.sq (Dats.dp r q (by simpa [PyData.canLay0] using c))
  | .list ds, _, p, .list m n h r, e, c => by
    have e' : (D.pyL ds).map PyData.list = some p := e
    cases q : D.pyL ds with
    | none => rw [q] at e'; cases e'
    | some xs =>
      rw [q] at e'
      cases e'
      exact .lst (SqL.of h) (Dats.dp r q (by simpa [PyData.canLay0] using c))
  | .ro ds, _, p, .ro h r, e, c => by
    have e' : (D.pyL ds).map PyData.list = some p := e
    cases q : D.pyL ds with
    | none => rw [q] at e'; cases e'
    | some xs =>
      rw [q] at e'
      cases e'
      exact .lst h.sq (Dats.dp r q (by simpa [PyData.canLay0] using c))
  | .dict ks ds, _, p, .dict m n h e1 e2 r, e, c => by
    have e' : (if ks.isEmpty && ds.isEmpty then some (PyData.dict []) else none) = some p := e
    split at e'
    · cases e'
      simp [PyData.canLay0] at c
    · cases e'
theorem Dats.dp : ∀ {ds : List D} {vs : List V} {ps : List PyData}, Dats S μ H vs ds → D.pyL ds = some ps → PyData.canLayAll0 ps = true → DpAll S.K H vs ps
  | [], _, _, .nil, e, _ => by cases e; exact .nil
  | d :: ds, _, ps, .cons h t, e, c => by
    have e' : (match D.py d, D.pyL ds with
      | some x, some xs => some (x :: xs)
      | _, _ => none) = some ps := e
    cases q : D.py d with
    | none => rw [q] at e'; cases e'
    | some x =>
      cases q2 : D.pyL ds with
      | none => rw [q, q2] at e'; cases e'
      | some xs =>
        rw [q, q2] at e'
        cases e'
        have c2 : PyData.canLay0 x = true ∧ PyData.canLayAll0 xs = true := by simpa [PyData.canLayAll0] using c
        exact .cons (Dat.dp h q c2.1) (Dats.dp t q2 c2.2)
end
/-- a list that may change is data as it stands, where one only reads -/
theorem dp_deref {d : D} {v : V} {p : PyData} (mm : Mm S μ H) (r : Dat S μ H v d) (e : (deref μ d).py = some p) (c : p.canLay0 = true) : Dp S.K H v p := by
  by_cases hr : ∃ a ds, d = .ref a ∧ μ a = some (.lst ds)
  · obtain ⟨a, ds, rfl, ha⟩ := hr
    cases r
    obtain ⟨vs, h1, r⟩ := mm.ok a _ ha
    have e2 : (D.list ds).py = some p := by
      have : deref μ (.ref a) = .list ds := by simp only [deref, ha]
      rw [this] at e
      exact e
    have e' : (D.pyL ds).map PyData.list = some p := e2
    cases q : D.pyL ds with
    | none => rw [q] at e'; cases e'
    | some xs =>
      rw [q] at e'
      cases e'
      exact .lst (SqL.of h1) (Dats.dp r q (by simpa [PyData.canLay0] using c))
  · have hd : deref μ d = d := by
      unfold deref
      split
      · rename_i a
        split
        · rename_i ds h
          exact absurd ⟨a, ds, rfl, h⟩ hr
        · rfl
      · rfl
    rw [hd] at e
    exact r.dp e c
theorem Dats.dpT (mm : Mm S μ H) : ∀ {ds : List D} {vs : List V} {ps : List PyData}, Dats S μ H vs ds → D.pyL (ds.map (deref μ)) = some ps → PyData.canLayAll0 ps = true → DpAll S.K H vs ps
  | [], _, _, .nil, e, _ => by cases e; exact .nil
  | d :: ds, _, ps, .cons h t, e, c => by
    have e' : (match D.py (deref μ d), D.pyL (ds.map (deref μ)) with
      | some x, some xs => some (x :: xs)
      | _, _ => none) = some ps := e
    cases q : D.py (deref μ d) with
    | none => rw [q] at e'; cases e'
    | some x =>
      cases q2 : D.pyL (ds.map (deref μ)) with
      | none => rw [q, q2] at e'; cases e'
      | some xs =>
        rw [q, q2] at e'
        cases e'
        have c2 : PyData.canLay0 x = true ∧ PyData.canLayAll0 xs = true := by simpa [PyData.canLayAll0] using c
        exact .cons (dp_deref mm h q c2.1) (Dats.dpT mm t q2 c2.2)
/-- the same, of a tuple's items too -/
theorem dp_derefT {d : D} {v : V} {p : PyData} (mm : Mm S μ H) (r : Dat S μ H v d) (e : (derefT μ d).py = some p) (c : p.canLay0 = true) : Dp S.K H v p := by
  cases d with
  | tup ds =>
    have e' : (D.pyL (ds.map (deref μ))).map PyData.tuple = some p := e
    cases q : D.pyL (ds.map (deref μ)) with
    | none => rw [q] at e'; cases e'
    | some xs =>
      rw [q] at e'
      cases e'
      cases r with
      | tup h rr => exact .tup h.sq (Dats.dpT mm rr q (by simpa [PyData.canLay0] using c))
  | _ => exact dp_deref mm r e c
theorem shaped0 {d : PyData} (h : SeqAt.shaped d = true) : d.canLay0 = true := (Bool.and_eq_true_iff.mp h).1
/-- what is to be read as a list -/
theorem lst_sq {d : D} {v : V} {ds : List D} (mm : Mm S μ H) (r : Dat S μ H v d) (e : lstOf μ d = some ds) : ∃ a vs, v = .ref a ∧ SqL S.K H a vs ∧ Dats S μ H vs ds := by
  unfold lstOf deref at e
  cases d with
  | ref a =>
    cases r
    simp only at e
    cases q : μ a with
    | none => rw [q] at e; cases e
    | some mo =>
      cases mo with
      | lst es =>
        rw [q] at e
        cases e
        obtain ⟨vs, h1, r⟩ := mm.ok a _ q
        exact ⟨a, vs, rfl, SqL.of h1, r⟩
      | _ => rw [q] at e; cases e
  | list es =>
    cases e
    cases r with
    | list m n h r => exact ⟨_, _, rfl, SqL.of h, r⟩
  | ro es =>
    cases e
    cases r with
    | ro h r => exact ⟨_, _, rfl, h.sq, r⟩
  | _ => cases e
theorem seq_sq {d : D} {v : V} {ds : List D} (mm : Mm S μ H) (r : Dat S μ H v d) (e : seqOf μ d = some ds) : ∃ a vs, v = .ref a ∧ (SqL S.K H a vs ∨ SqT S.K H a vs) ∧ Dats S μ H vs ds := by
  cases d with
  | tup es =>
    cases e
    cases r with
    | tup h r => exact ⟨_, _, rfl, .inr h.sq, r⟩
  | ref a =>
    have e2 : lstOf μ (.ref a) = some ds := by
      unfold seqOf deref at e
      unfold lstOf deref
      simp only at e ⊢
      cases q : μ a with
      | none => rw [q] at e; cases e
      | some mo =>
        rw [q] at e
        cases mo with
        | lst es => exact e
        | _ => cases e
    obtain ⟨b, vs, h1, h2, h3⟩ := lst_sq mm r e2
    exact ⟨b, vs, h1, .inl h2, h3⟩
  | list es =>
    obtain ⟨b, vs, h1, h2, h3⟩ := lst_sq (ds := ds) mm r (by cases e; rfl)
    exact ⟨b, vs, h1, .inl h2, h3⟩
  | ro es =>
    obtain ⟨b, vs, h1, h2, h3⟩ := lst_sq (ds := ds) mm r (by cases e; rfl)
    exact ⟨b, vs, h1, .inl h2, h3⟩
  | _ => cases e
theorem Dats.ints : ∀ {ds : List D} {vs : List V} {ns : List Int}, Dats S μ H vs ds → allInt ds = some ns → vs = ns.map V.int
  | [], _, _, .nil, e => by cases e; rfl
  | d :: ds, _, ns, .cons h t, e => by
    cases d with
    | int i =>
      have e' : (allInt ds).map (i :: ·) = some ns := e
      cases q : allInt ds with
      | none => rw [q] at e'; cases e'
      | some ms =>
        rw [q] at e'
        cases e'
        cases h
        rw [Dats.ints t q]
        rfl
    | _ => cases e
theorem Dats.bls : ∀ {ds : List D} {vs : List V} {ns : List Bool}, Dats S μ H vs ds → allBl ds = some ns → vs = ns.map V.bl
  | [], _, _, .nil, e => by cases e; rfl
  | d :: ds, _, ns, .cons h t, e => by
    cases d with
    | bl i =>
      have e' : (allBl ds).map (i :: ·) = some ns := e
      cases q : allBl ds with
      | none => rw [q] at e'; cases e'
      | some ms =>
        rw [q] at e'
        cases e'
        cases h
        rw [Dats.bls t q]
        rfl
    | _ => cases e
theorem dats_ints {ns : List Int} : Dats S μ H (ns.map V.int) (ns.map D.int) := by
  induction ns with
  | nil => exact .nil
  | cons n ns ih => exact .cons (.int n) ih
/-- a new list -/
theorem newL_ok {m : Bool} {ds : List D} {vs : List V} {Φ : AQ} {Q : VK} (mm : Mm S μ H) (r : Dats S μ H vs ds) (h : newL m ds μ Φ) (k : KQ S μ H Φ Q) (p : Addr) (hp : H p = none) : Q (.ref p) (upd H p (.lst vs)) := by
  unfold newL at h
  cases m with
  | true =>
    rw [if_pos rfl] at h
    exact k _ _ _ _ (Grow.newM hp) (mm.newM (mo := .lst ds) hp ⟨vs, upd_same, r.grow (Grow.newM hp)⟩) (.ref p) (h p (mm.free hp))
  | false =>
    rw [if_neg Bool.false_ne_true] at h
    exact k _ _ _ _ (Grow.new hp) (mm.new hp) (.list (mm.free hp) (mm.hids hp) upd_same (r.grow (Grow.new hp))) h
end
end Fk
end
section
set_option maxHeartbeats 4000000
/-! Operators, comparisons, subscripts, built-in functions by values. -/
namespace Fk
open PySem PySem.Spec PyProof.Rows L2

def l2 (S : Sg) (s : D → D → Mem → AQ → Prop) : R2 := fun vx vy H Q => ∃ x y μ Φ, Mm S μ H ∧ Dat S μ H vx x ∧ Dat S μ H vy y ∧ s x y μ Φ ∧ KQ S μ H Φ Q
def lC (S : Sg) (s : List D → Mem → AQ → Prop) : List V → Hp → VK → Prop := fun vs H Q => ∃ xs μ Φ, Mm S μ H ∧ Dats S μ H vs xs ∧ s xs μ Φ ∧ KQ S μ H Φ Q
section
variable {X : Cx} {S : Sg} {μ : Mem} {H : Hp}
/-- an answer that makes nothing -/
theorem KQ.now {Φ : AQ} {Q : VK} {v : V} {d : D} (k : KQ S μ H Φ Q) (mm : Mm S μ H) (r : Dat S μ H v d) (h : Φ d μ) : Q v H := k d μ v H (Grow.refl μ H) mm r h
theorem KQ.tup {Φ : AQ} {Q : VK} {vs : List V} {ds : List D} (k : KQ S μ H Φ Q) (mm : Mm S μ H) (r : Dats S μ H vs ds) (h : Φ (.tup ds) μ) (p : Addr) (hp : H p = none) : Q (.ref p) (upd H p (.tup vs)) :=
  k _ _ _ _ (Grow.new hp) (mm.new hp) (.tup (.inl ⟨mm.free hp, mm.hids hp, .inl upd_same⟩) (r.grow (Grow.new hp))) h
theorem KQ.lst {Φ : AQ} {Q : VK} {vs : List V} {ds : List D} (k : KQ S μ H Φ Q) (mm : Mm S μ H) (r : Dats S μ H vs ds) (h : Φ (.list ds) μ) (p : Addr) (hp : H p = none) : Q (.ref p) (upd H p (.lst vs)) :=
  k _ _ _ _ (Grow.new hp) (mm.new hp) (.list (mm.free hp) (mm.hids hp) upd_same (r.grow (Grow.new hp))) h
theorem deref_list {d : D} {v : V} {ds : List D} (mm : Mm S μ H) (r : Dat S μ H v d) (e : deref μ d = .list ds) : ∃ a vs, v = .ref a ∧ H a = some (.lst vs) ∧ Dats S μ H vs ds := by
  unfold deref at e
  cases d with
  | ref a =>
    cases r
    simp only at e
    cases q : μ a with
    | none => rw [q] at e; cases e
    | some mo =>
      rw [q] at e
      cases mo with
      | lst es =>
        cases e
        obtain ⟨vs, h1, r⟩ := mm.ok a _ q
        exact ⟨a, vs, rfl, h1, r⟩
      | _ => cases e
  | list es =>
    cases e
    cases r with
    | list m n h r => exact ⟨_, _, rfl, h, r⟩
  | _ => cases e
theorem deref_tup {d : D} {v : V} {ds : List D} (mm : Mm S μ H) (r : Dat S μ H v d) (e : deref μ d = .tup ds) : ∃ a vs, v = .ref a ∧ SqT S.K H a vs ∧ Dats S μ H vs ds := by
  unfold deref at e
  cases d with
  | ref a =>
    cases r
    simp only at e
    cases q : μ a with
    | none => rw [q] at e; cases e
    | some mo =>
      rw [q] at e
      cases mo <;> cases e
  | tup es =>
    cases e
    cases r with
    | tup h r => exact ⟨_, _, rfl, h.sq, r⟩
  | _ => cases e
theorem CDivX.w {i j : Int} (h : CDivX i j) : CDivW i j := by
  obtain ⟨h0, h1⟩ := h
  refine ⟨h0, Nat.lt_of_lt_of_le (PySem.Flt.log2_lt_of (k := 209) (by decide) ?_) (by decide)⟩
  have e2 : (2 : Nat) ^ 209 = 822752278660603021077484591278675252491367932816789931674304512 := by decide
  rw [e2]; omega
theorem CDivX.p {i j : Int} (h : CDivX i j) : CDivP i j := ⟨h.1, PyProof.noPylong_of_log2 h.w.2⟩
theorem mulOk_small {x : Str} {n : Int} (h1 : x.length ≤ 1000) (h2 : 0 ≤ n) (h3 : n ≤ 1000) : MulOk x n := by
  refine ⟨?_, fun a b => ?_, fun a b => ?_⟩
  · have e1 : decide (n < -(2 ^ 63 : Int)) = false := decide_eq_false (by omega)
    have e2 : decide (n ≥ 2 ^ 63) = false := decide_eq_false (by omega)
    rw [e1, e2]; rfl
  · have hn : 0 < n := by omega
    have h4 : (1000 : Int) ≤ (2 ^ 63 - 1) / n := by
      rw [Int.le_ediv_iff_mul_le hn]
      omega
    omega
  · have h4 : x.length * n.toNat ≤ 1000 * 1000 := Nat.mul_le_mul h1 (by omega)
    unfold Builtin.Str.tooLong
    have h5 : sizeLine = 16777216 := rfl
    simp only [decide_eq_false_iff_not]
    omega
theorem op_binS (hK : S.K = X.K) (m : Bool) (op : Operator) : OpR X (binaryOp op) (l2 S (binS m op)) := by
  intro pins s σ H vx vy v u Q I rx ry h
  obtain ⟨x, y, μ, Φ, mm, dx, dy, h, k⟩ := h
  unfold binS at h
  split at h
  · cases dx; cases dy
    exact op_add pins s σ H _ _ v u Q I rx ry ⟨_, _, rfl, rfl, k.now mm (.int _) h⟩
  · cases dx; cases dy
    exact op_sub pins s σ H _ _ v u Q I rx ry ⟨_, _, rfl, rfl, k.now mm (.int _) h⟩
  · cases dx; cases dy
    exact op_mul pins s σ H _ _ v u Q I rx ry ⟨_, _, rfl, rfl, h.1, k.now mm (.int _) h.2⟩
  · cases dx; cases dy
    obtain ⟨t1, rfl⟩ := rx
    obtain ⟨t2, rfl⟩ := ry
    exact SB.mul (mulOk_small h.1.1 h.1.2.1 h.1.2.2) fun t' kk => ⟨.str _, H, I.tok _, ⟨_, rfl⟩, k.now mm (.str _) h.2⟩
  · cases dx; cases dy
    exact op_fdivW pins s σ H _ _ v u Q I rx ry ⟨_, _, rfl, rfl, h.1.w, k.now mm (.int _) h.2⟩
  · cases dx; cases dy
    exact op_mod pins s σ H _ _ v u Q I rx ry ⟨_, _, rfl, rfl, h.1, k.now mm (.int _) h.2⟩
  · cases dx; cases dy
    exact op_pow pins s σ H _ _ v u Q I rx ry ⟨_, _, rfl, rfl, h.1, k.now mm (.int _) h.2⟩
  · cases dx; cases dy
    exact op_add_str pins s σ H _ _ v u Q I rx ry ⟨_, _, rfl, rfl, h.1, k.now mm (.str _) h.2⟩
  · split at h
    · rename_i xs ys hx hy
      obtain ⟨a, vs, rfl, h1, r1⟩ := deref_list mm dx hx
      obtain ⟨b, ws, rfl, h2, r2⟩ := deref_list mm dy hy
      exact op_cat pins s σ H _ _ v u Q I rx ry ⟨a, b, vs, ws, rfl, rfl, h1, h2, by rw [r1.length, r2.length]; exact h.1, fun p hp => newL_ok mm (r1.append r2) h.2 k p hp⟩
    · rename_i xs ys hx hy
      obtain ⟨a, vs, rfl, h1, r1⟩ := deref_tup mm dx hx
      obtain ⟨b, ws, rfl, h2, r2⟩ := deref_tup mm dy hy
      rw [hK] at h1 h2
      refine op_catT pins s σ H _ _ v u Q I rx ry ⟨a, b, vs, ws, rfl, rfl, h1, h2, ?_, by rw [r1.length, r2.length]; exact h.2.1, ?_, ?_⟩
      · rintro rfl
        have := r1.length
        exact h.1 (List.length_eq_zero_iff.mp this.symm)
      · rintro rfl
        cases r2
        have h3 := h.2.2
        rw [List.append_nil] at h3
        have dt : Dat S μ H (.ref a) (.tup xs) := by
          cases dx with
          | tup hq rr =>
            have e : deref μ (.tup _) = .tup xs := hx
            cases e
            exact .tup hq rr
          | ref _ =>
            exfalso
            unfold deref at hx
            dsimp only at hx
            split at hx <;> cases hx
          | list => cases hx
          | ro => cases hx
          | dict => cases hx
        exact k.now mm dt h3
      · exact fun _ p hp => k.tup mm (r1.append r2) h.2.2 p hp
    · exact h.elim
  · exact h.elim

theorem kLook_find {α : Type} {kvs : List (Key × α)} {k : Key} : kLook kvs k = (kvs.find? fun kv => decide (kv.1 = k)).map (·.2) := rfl
/-- the look into a dict, by values -/
theorem look_zip : ∀ {kvs : List (Key × V)} {ds : List D}, Dats S μ H (kvs.map (·.2)) ds → ∀ k, (valV kvs k = none ∧ kLook ((kvs.map (·.1)).zip ds) k = none) ∨ ∃ v d, valV kvs k = some v ∧ kLook ((kvs.map (·.1)).zip ds) k = some d ∧ Dat S μ H v d
  | [], ds, _, k => .inl ⟨rfl, rfl⟩
  | (k0, v0) :: r, ds, h, k => by
    cases h with
    | @cons _ d0 _ ds' h t =>
      by_cases e : k0 = k
      · exact .inr ⟨v0, d0, valV_pos e, by simp [kLook, e], h⟩
      · have e2 : valV ((k0, v0) :: r) k = valV r k := valV_neg e
        have e3 : kLook ((((k0, v0) :: r).map (·.1)).zip (d0 :: ds')) k = kLook ((r.map (·.1)).zip ds') k := by simp [kLook, e]
        rw [e2, e3]
        exact look_zip t k
theorem dic_get {d : D} {v : V} {kvs : List (Key × D)} (mm : Mm S μ H) (r : Dat S μ H v d) (e : dicOf μ d = some kvs) (k : Key) :
    ∃ a, v = .ref a ∧ ((DGet H a (kV k) none ∧ kLook kvs k = none) ∨ ∃ w x, DGet H a (kV k) (some w) ∧ kLook kvs k = some x ∧ Dat S μ H w x) := by
  have go : ∀ {a : Addr} {ws : List (Key × V)} {ds : List D}, H a = some (.dK ws) → Dats S μ H (ws.map (·.2)) ds → kvs = (ws.map (·.1)).zip ds →
      (DGet H a (kV k) none ∧ kLook kvs k = none) ∨ ∃ w x, DGet H a (kV k) (some w) ∧ kLook kvs k = some x ∧ Dat S μ H w x := by
    intro a ws ds ha hr hk
    subst hk
    have g : DGet H a (kV k) (valV ws k) := .k ha
    rcases look_zip hr k with ⟨h1, h2⟩ | ⟨w, x, h1, h2, h3⟩
    · rw [h1] at g
      exact .inl ⟨g, h2⟩
    · rw [h1] at g
      exact .inr ⟨w, x, g, h2, h3⟩
  cases d with
  | ref a =>
    cases r
    unfold dicOf at e
    simp only at e
    cases q : μ a with
    | none => rw [q] at e; cases e
    | some mo =>
      rw [q] at e
      cases mo with
      | dK ks ds =>
        cases e
        obtain ⟨ws, vs, h1, h2, h3, r⟩ := mm.ok a _ q
        subst h2 h3
        exact ⟨a, rfl, go h1 r rfl⟩
      | _ => cases e
  | dict ks ds =>
    cases e
    cases r with
    | dict m n h e1 e2 r =>
      subst e1 e2
      exact ⟨_, rfl, go h r rfl⟩
  | _ => cases e
theorem keyD_kV {d : D} {v : V} {k : Key} (r : Dat S μ H v d) (e : keyD d = some k) : v = kV k := by
  cases d with
  | int i => cases e; cases r; rfl
  | str x => cases e; cases r; rfl
  | _ => cases e
theorem eqS_ok (hK : S.K = X.K) (hu : X.A.units + 64 < cLine) {x y : D} {vx vy : V} {k : Bool → Prop} (mm : Mm S μ H) (dx : Dat S μ H vx x) (dy : Dat S μ H vy y) (h : eqS μ x y k) :
    ∃ d e, Dp X.K H vx d ∧ Dp X.K H vy e ∧ SeqAt.shaped d = true ∧ SeqAt.shaped e = true ∧ k (PyData.eqv d e) := by
  obtain ⟨d, e, h1, h2, s1, s2, q⟩ := h
  rw [← hK]
  exact ⟨d, e, dp_derefT mm dx h1 (shaped0 s1), dp_derefT mm dy h2 (shaped0 s2), s1, s2, q⟩
/-- x in y of no dict -/
theorem inL_ok (hK : S.K = X.K) (hu : X.A.units + 64 < cLine) (neg : Bool) {x y : D} {vx vy : V} {u v : Value} {pins : List (Addr × Obj)} {σ : L2.St} {s : Shared} {Q : VK} {κ : Bool → Prop} (I : Inv X pins σ H s) (mm : Mm S μ H) (dx : Dat S μ H vx x) (dy : Dat S μ H vy y)
    (rx : RelV vx v) (ry : RelV vy u) (h : inL x y μ κ) (q : ∀ b, κ b → Q (.bl (if neg then !b else b)) H) : wpAny (model X.prog X.w) X.A (compareOp (if neg then .NotIn else .In) v u) (EP X pins σ Q) X.xe s := by
  unfold inL at h
  split at h
  · split at h
    · obtain ⟨rfl, h⟩ := h
      cases dx; cases dy
      cases neg with
      | false => exact op_in_sign pins s σ H _ _ v u Q I rx ry ⟨_, _, rfl, rfl, q _ h⟩
      | true => exact op_notIn_sign pins s σ H _ _ v u Q I rx ry ⟨_, _, rfl, rfl, q _ h⟩
    · exact h.elim
  · obtain ⟨d, es, h1, h2 | h2, h3, s1, s2, h⟩ := h
    case inr =>
      have hd := dp_deref mm dx h1 (shaped0 s1)
      have he := dp_deref mm dy h2 (show PyData.canLay0 (.tuple es) = true by have := shaped0 s2; simpa [PyData.canLay0] using this)
      rw [hK] at hd he
      obtain ⟨as, r1⟩ := Dp.reads I d vx v hd rx
      obtain ⟨bs, r2⟩ := Dp.reads I (.tuple es) vy u he ry
      have hm : min (PyData.depthAll es) d.depth ≤ d.depth := Nat.min_le_right _ _
      have hc : PyData.canLayAll0 es = true := by have := shaped0 s2; simpa [PyData.canLay0] using this
      cases neg with
      | false => exact SeqAt.in_tuple_reads r2 r1 hc (shaped0 s1) (by omega) ⟨.bl _, H, I, rfl, q _ h⟩
      | true => exact SeqAt.notIn_tuple_reads r2 r1 hc (shaped0 s1) (by omega) ⟨.bl _, H, I, rfl, q _ h⟩
    have hd := dp_deref mm dx h1 (shaped0 s1)
    have he := dp_deref mm dy h2 (shaped0 s2)
    rw [hK] at hd he
    obtain ⟨as, r1⟩ := Dp.reads I d vx v hd rx
    obtain ⟨bs, r2⟩ := Dp.reads I (.list es) vy u he ry
    have hm : min (PyData.depthAll es) d.depth ≤ d.depth := Nat.min_le_right _ _
    cases neg with
    | false => exact SeqAt.in_list_reads r2 r1 (SeqAt.canLay_of_shaped s2) (SeqAt.canLay_of_shaped s1) (by omega) ⟨.bl _, H, I, rfl, q _ h⟩
    | true => exact SeqAt.notIn_list_reads r2 r1 (SeqAt.canLay_of_shaped s2) (SeqAt.canLay_of_shaped s1) (by omega) ⟨.bl _, H, I, rfl, q _ h⟩
theorem op_cmpS (hK : S.K = X.K) (hu : X.A.units + 64 < cLine) (op : CmpOp) : OpR X (compareOp op) (l2 S (cmpS op)) := by
  intro pins s σ H vx vy v u Q I rx ry h
  obtain ⟨x, y, μ, Φ, mm, dx, dy, h, k⟩ := h
  have hu1 : X.A.units + 1 < cLine := by omega
  unfold cmpS at h
  split at h
  · cases dx; cases dy
    exact op_lt pins s σ H _ _ v u Q I rx ry ⟨_, _, rfl, rfl, k.now mm (.bl _) h⟩
  · cases dx; cases dy
    exact op_le pins s σ H _ _ v u Q I rx ry ⟨_, _, rfl, rfl, k.now mm (.bl _) h⟩
  · cases dx; cases dy
    exact op_gt pins s σ H _ _ v u Q I rx ry ⟨_, _, rfl, rfl, k.now mm (.bl _) h⟩
  · cases dx; cases dy
    exact op_ge pins s σ H _ _ v u Q I rx ry ⟨_, _, rfl, rfl, k.now mm (.bl _) h⟩
  · cases dx; cases dy
    refine op_eq pins s σ H _ _ v u Q I rx ry ⟨rfl, ?_⟩
    have e : ∀ i j : Int, decide (V.int i = V.int j) = decide (i = j) := fun i j => by simp
    rw [e]
    exact k.now mm (.bl _) h
  · cases dx; cases dy
    refine op_ne pins s σ H _ _ v u Q I rx ry ⟨rfl, ?_⟩
    have e : ∀ i j : Int, decide (V.int i = V.int j) = decide (i = j) := fun i j => by simp
    rw [e]
    exact k.now mm (.bl _) h
  · cases dx; cases dy
    refine op_eq pins s σ H _ _ v u Q I rx ry ⟨rfl, ?_⟩
    have e : ∀ i j : Str, decide (V.str i = V.str j) = decide (i = j) := fun i j => by simp
    rw [e]
    exact k.now mm (.bl _) h
  · cases dx; cases dy
    refine op_ne pins s σ H _ _ v u Q I rx ry ⟨rfl, ?_⟩
    have e : ∀ i j : Str, decide (V.str i = V.str j) = decide (i = j) := fun i j => by simp
    rw [e]
    exact k.now mm (.bl _) h
  · cases dy
    refine op_isN pins s σ H _ _ v u Q I rx ry ⟨rfl, ?_⟩
    have e : decide (vx = .non) = isNon x := by cases dx <;> simp [isNon]
    rw [e]
    exact k.now mm (.bl _) h
  · cases dy
    refine op_notN pins s σ H _ _ v u Q I rx ry ⟨rfl, ?_⟩
    have e : (!decide (vx = .non)) = !isNon x := by cases dx <;> simp [isNon]
    rw [e]
    exact k.now mm (.bl _) h
  · cases dx; cases dy
    exact op_isBl pins s σ H _ _ v u Q I rx ry ⟨_, _, rfl, rfl, k.now mm (.bl _) h⟩
  · cases dx; cases dy
    exact op_notBl pins s σ H _ _ v u Q I rx ry ⟨_, _, rfl, rfl, k.now mm (.bl _) h⟩
  · split at h
    · rename_i kvs kk hd hk
      obtain ⟨a, rfl, g⟩ := dic_get mm dy hd kk
      have e := keyD_kV dx hk
      subst e
      cases ry
      rcases g with ⟨g, e⟩ | ⟨w, z, g, e, _⟩
      · rw [e] at h
        exact d_in hu1 I g rx fun s' I' => ⟨.bl false, H, I', rfl, k.now mm (.bl _) h⟩
      · rw [e] at h
        exact d_in hu1 I g rx fun s' I' => ⟨.bl true, H, I', rfl, k.now mm (.bl _) h⟩
    · exact inL_ok hK hu false I mm dx dy rx ry h fun b hb => k.now mm (.bl _) hb
  · split at h
    · rename_i kvs kk hd hk
      obtain ⟨a, rfl, g⟩ := dic_get mm dy hd kk
      have e := keyD_kV dx hk
      subst e
      cases ry
      rcases g with ⟨g, e⟩ | ⟨w, z, g, e, _⟩
      · rw [e] at h
        exact d_notIn hu1 I g rx fun s' I' => ⟨.bl true, H, I', rfl, k.now mm (.bl _) h⟩
      · rw [e] at h
        exact d_notIn hu1 I g rx fun s' I' => ⟨.bl false, H, I', rfl, k.now mm (.bl _) h⟩
    · exact inL_ok hK hu true I mm dx dy rx ry h fun b hb => k.now mm (.bl _) hb
  · obtain ⟨d, e, h1, h2, s1, s2, q⟩ := eqS_ok hK hu mm dx dy h
    exact op_eqD hu pins s σ H _ _ v u Q I rx ry ⟨d, e, h1, h2, s1, s2, k.now mm (.bl _) q⟩
  · obtain ⟨d, e, h1, h2, s1, s2, q⟩ := eqS_ok hK hu mm dx dy h
    exact op_neD hu pins s σ H _ _ v u Q I rx ry ⟨d, e, h1, h2, s1, s2, k.now mm (.bl _) q⟩
  · exact h.elim
theorem atI_dat {vs : List V} {ds : List D} {i : Int} {d : D} (r : Dats S μ H vs ds) (h : atI ds i = some d) : ∃ v, atI vs i = some v ∧ Dat S μ H v d := by
  unfold atI at h ⊢
  rw [r.length]
  cases e : ixN ds.length i with
  | none => rw [e] at h; cases h
  | some j =>
    rw [e] at h
    exact r.get' h
theorem ix_dict {K : PySem.W.Frag} (hu : X.A.units + 1 < cLine) : IxR X (fun x y H Q => ∃ a w, x = .ref a ∧ DGet H a y (some w) ∧ Q w H) := by
  intro value slice pins s σ H x y v u Q I rx ry h hs
  obtain ⟨a, w, rfl, g, q⟩ := h
  cases rx
  exact tail_any (dict_typeIs I g) PySem.F.slot_dict_getitem.lookup (d_getItem hu I g ry fun w' s' I' rw' => ⟨w, H, I', rw', q⟩) hs
theorem ix_subS (hK : S.K = X.K) (hu : X.A.units + 1 < cLine) : IxR X (l2 S subS) := by
  intro value slice pins s σ H vx vy v u Q I rx ry h hs
  obtain ⟨x, y, μ, Φ, mm, dx, dy, h, k⟩ := h
  unfold subS at h
  split at h
  · rename_i ds j hq
    split at h
    · rename_i d hd
      cases dy
      obtain ⟨a, vs, rfl, sq, r⟩ := seq_sq mm dx hq
      obtain ⟨w, hw, dw⟩ := atI_dat r hd
      rw [hK] at sq
      rcases sq with sq | sq
      · exact ix_list value slice pins s σ H _ _ v u Q I rx ry ⟨a, vs, j, w, rfl, rfl, sq, hw, k.now mm dw h⟩ hs
      · exact ix_tup value slice pins s σ H _ _ v u Q I rx ry ⟨a, vs, j, w, rfl, rfl, sq, hw, k.now mm dw h⟩ hs
    · exact h.elim
  · split at h
    · rename_i kvs kk hd hk
      obtain ⟨a, rfl, g⟩ := dic_get mm dx hd kk
      have e := keyD_kV dy hk
      subst e
      rcases g with ⟨g, e⟩ | ⟨w, z, g, e, dz⟩
      · rw [e] at h
        exact h.elim
      · rw [e] at h
        exact ix_dict (K := X.K) hu value slice pins s σ H _ _ v u Q I rx ry ⟨a, w, rfl, g, k.now mm dz h⟩ hs
    · split at h
      · obtain ⟨hz, h⟩ := h
        split at h
        · rename_i c hc
          cases dx; cases dy
          exact ix_str value slice pins s σ H _ _ v u Q I rx ry ⟨_, _, c, rfl, rfl, hz, hc, k.now mm (.str _) h⟩ hs
        · exact h.elim
      · exact h.elim
end
end Fk
end
section
set_option maxHeartbeats 4000000
/-! A def's promise where nothing is being shown around it (repr asks that). -/
namespace Fk
open PySem PySem.Spec PyProof.Rows L2

theorem guards_deeper (A : Around) (env : PySem.Env) : (A.deeper env).guards = A.guards := rfl
theorem guards_make (A : Around) (C : Addr) (us : List Value) (kw : List (Str × Value)) : (A.under (.builtin "type.__call__" ⟨.ref C :: us, kw⟩)).guards = A.guards := by
  show pushGuards (Code.builtin "type.__call__" ⟨.ref C :: us, kw⟩).guards A.guards = A.guards
  rfl

structure FnG (P : Program) (w : World) (K : PySem.W.Frag) (mg : Str → Option Value) (base : Heap) (k : Nat) (f : Addr) (fd : FuncData) (ps : List Str) (sp : Sp) : Prop where
  len : ∀ vs H Q E, sp vs H Q E → vs.length = ps.length
  run : ∀ (A : Around) (outer : List PySem.Env) (s : Shared) (H : Hp) (args : Args) (us : List Value) (vs : List V) (Q : VK) (E : XK),
    A.guards = some [] → Room k A → Env0 P w K mg base A outer s H → BindsTo s fd args (ps.zip us) → Vals vs us → sp vs H Q E →
    codeAny (model P w) A (.call (.ref f) args) (CR (L2.CX P w) outer P w H s Q E) s
section
variable {P : Program} {w : World} {K : PySem.W.Frag} {mg : Str → Option Value} {base : Heap} {j k : Nat} {f : Addr} {fd : FuncData} {ps N : List Str} {sp : Sp}
theorem FnG.mono (F : FnG P w K mg base j f fd ps sp) (h : j ≤ k) : FnG P w K mg base k f fd ps sp :=
  ⟨F.len, fun A outer s H args us vs Q E hg hr => F.run A outer s H args us vs Q E hg (hr.mono h)⟩
theorem FnG.of_body {x qual : Str} {params : Arguments} {body : List Stmt} {scope : Scope} {dvs : List V} {kws : List (Str × V)} (F : FunD K x qual params body scope dvs kws f fd) (Sc : FnScope N ps scope)
    (len : ∀ vs H Q E, sp vs H Q E → vs.length = ps.length)
    (hb : ∀ (cdv : Value) (A : Around) (outer : List PySem.Env) (s : Shared) (H : Hp) (vs : List V) (Q : VK) (E : XK), A.guards = some [] →
      Room k (A.deeper (envOfC qual scope s.heap.objs.size f cdv)) → sp vs H Q E →
      ∃ t, PSs (cxOf (L2.CX P w) P w K mg base N qual scope f cdv A outer s H E) body t ∧ t { nx := fun _ H' => Q .non H', rt := Q } (start N vs) H) : FnG P w K mg base (k + 1) f fd ps sp := by
  obtain ⟨oc, od, dV, kV, doc, pm, an, cdv, ct, osl, rfl, lk, hcd, _, _⟩ := F.ex
  refine ⟨len, fun A outer s H args us vs Q E hg hr e0 hbd rv hs => ?_⟩
  have hl := len vs H Q E hs
  have kin : K.In s.heap := e0.mod.kin.keeps fun b o z => (e0.bs b o z).1
  have nol : s.heap.NoLimit := e0.mod.nolimit.keeps fun b o z => (e0.bs b o z).1
  have kinds : ∀ y ∈ ps.zip us, scope.names.lookup y.1 = some .local ∨ (scope.names.lookup y.1 = some .cell ∧ ((cellsFrom (s.heap.objs.size + 1) scope.names []).lookup y.1).isSome = true) := by
    rintro ⟨n, v⟩ hy
    rcases Sc.par n (List.of_mem_zip hy).1 with z | z
    · exact .inl z
    · exact .inr ⟨z, PySem.W.cellsFrom_some _ _ _ (.inl z)⟩
  refine codeAny_call_function hr.depth (kin _ _ lk) rfl Sc.co Sc.gen rfl (PySem.W.codeRec_of kin hcd) (hbd _ _ _ _ (wpAny_newFunctionEnv_cells Sc.kind kinds fun env he s1 x1 => ?_))
  subst he
  refine ⟨nol.keeps x1.toInCall.keep, codeAny_func ?_⟩
  obtain ⟨t, ht, q⟩ := hb cdv A outer s H vs Q E hg (hr.deeper _) hs
  have I0 := inv_start (CX := L2.CX P w) (cd := cdv) (E := E) Sc hr.hd e0 hl rv x1
  refine wpAny_mono (ht.run [] s1 _ H _ I0 q) (fun fl s2 z => ?_) fun _ _ z => z
  cases fl with
  | ret u =>
    obtain ⟨v, σ', H', J, r, q⟩ := z
    exact ⟨v, H', J.os, J.bare, J.base, J.hok, r, q⟩
  | next =>
    obtain ⟨σ', H', J, q⟩ := z
    exact ⟨V.non, H', J.os, J.bare, J.base, J.hok, rfl, q⟩
  | brk =>
    obtain ⟨_, _, _, q⟩ := z
    exact q.elim
  | cont =>
    obtain ⟨_, _, _, q⟩ := z
    exact q.elim
end

/-- a def's promise where it is called by places -/
structure FnB (P : Program) (w : World) (K : PySem.W.Frag) (mg : Str → Option Value) (base : Heap) (k : Nat) (f : Addr) (sp : Sp) : Prop where
  run : ∀ (A : Around) (outer : List PySem.Env) (s : Shared) (H : Hp) (us : List Value) (vs : List V) (Q : VK) (E : XK),
    A.guards = some [] → Room k A → Env0 P w K mg base A outer s H → Vals vs us → sp vs H Q E →
    codeAny (model P w) A (.call (.ref f) ⟨us, []⟩) (CR (L2.CX P w) outer P w H s Q E) s
section
variable {P : Program} {w : World} {K : PySem.W.Frag} {mg : Str → Option Value} {base : Heap} {j k : Nat} {f : Addr} {fd : FuncData} {ps : List Str} {sp sp' : Sp} {dd : List Value} {dvs : List V}
theorem FnB.mono (F : FnB P w K mg base j f sp) (h : j ≤ k) : FnB P w K mg base k f sp := ⟨fun A outer s H us vs Q E hg hr => F.run A outer s H us vs Q E hg (hr.mono h)⟩
/-- a def's promise where it is called by names alone -/
structure FnK (P : Program) (w : World) (K : PySem.W.Frag) (mg : Str → Option Value) (base : Heap) (k : Nat) (f : Addr) (ks : List Str) (sel : List Nat) (sp : Sp) : Prop where
  run : ∀ (A : Around) (outer : List PySem.Env) (s : Shared) (H : Hp) (us : List Value) (vs : List V) (Q : VK) (E : XK),
    A.guards = some [] → Room k A → Env0 P w K mg base A outer s H → Vals vs us → us.length = ks.length → sp (sel.map fun i => vs.getD i .non) H Q E →
    codeAny (model P w) A (.call (.ref f) ⟨[], ks.zip us⟩) (CR (L2.CX P w) outer P w H s Q E) s
/-- what such a call binds -/
def KBd (K : PySem.W.Frag) (fd : FuncData) (ps : List Str) (dd : List Value) (ks : List Str) (sel : List Nat) : Prop := ∀ (s : Shared) (us : List Value), K.In s.heap → us.length = ks.length → BindsTo s fd ⟨[], ks.zip us⟩ (ps.zip ((sel.map fun i => us.getD i .none) ++ dd))
theorem vals_getD : ∀ {vs : List V} {us : List Value}, Vals vs us → ∀ i : Nat, RelV (vs.getD i .non) (us.getD i .none)
  | _, _, .nil, i => rfl
  | _, _, .cons r t, 0 => r
  | _, _, .cons r t, i + 1 => vals_getD t i
theorem vals_sel {vs : List V} {us : List Value} (r : Vals vs us) : ∀ sel : List Nat, Vals (sel.map fun i => vs.getD i .non) (sel.map fun i => us.getD i .none)
  | [] => .nil
  | i :: l => .cons (vals_getD r i) (vals_sel r l)
theorem FnK.mono {ks : List Str} {sel : List Nat} (F : FnK P w K mg base j f ks sel sp) (h : j ≤ k) : FnK P w K mg base k f ks sel sp := ⟨fun A outer s H us vs Q E hg hr => F.run A outer s H us vs Q E hg (hr.mono h)⟩
theorem FnG.toK {ks : List Str} {sel : List Nat} (F : FnG P w K mg base k f fd ps sp) (B : KBd K fd ps dd ks sel) (hd : Vals dvs dd) (h : ∀ vs H Q E, sp' vs H Q E → sp (vs ++ dvs) H Q E) : FnK P w K mg base k f ks sel sp' :=
  ⟨fun A outer s H us vs Q E hg hr e0 rv hl hs => by
    have kin : K.In s.heap := e0.mod.kin.keeps fun b o z => (e0.bs b o z).1
    exact F.run A outer s H ⟨[], ks.zip us⟩ _ _ Q E hg hr e0 (B s us kin hl) ((vals_sel rv sel).append hd) (h _ H Q E hs)⟩
theorem FnG.toB (F : FnG P w K mg base k f fd ps sp) (B : Binds K fd ps dd) (hd : Vals dvs dd) (h : ∀ vs H Q E, sp' vs H Q E → sp (vs ++ dvs) H Q E) : FnB P w K mg base k f sp' :=
  ⟨fun A outer s H us vs Q E hg hr e0 rv hs => by
    have kin : K.In s.heap := e0.mod.kin.keeps fun b o z => (e0.bs b o z).1
    have q := h vs H Q E hs
    have r := rv.append hd
    exact F.run A outer s H ⟨us, []⟩ (us ++ dd) (vs ++ dvs) Q E hg hr e0 (B s us kin (r.length.symm.trans (F.len _ _ _ _ q))) r q⟩
end
section
variable {X : Cx} {k : Nat} {f C : Addr} {fd : FuncData} {ps : List Str} {sp : Sp} {E : XK} {W : WX}
/-- the callee runs; what it raises is wished for at the slots σ -/
theorem runG {pins : List (Addr × Obj)} {σ : L2.St} {H : Hp} {s : Shared} {Q : VK} {us : List Value} {vs : List V} (F : FnB X.prog X.w X.K X.mg X.base k f sp) (hg : X.A.guards = some []) (hr : Room k X.A)
    (tk : Takes X W) (I : Inv X pins σ H s) (r : Vals vs us) (h : sp vs H Q (WE W σ)) : wpAny (model X.prog X.w) X.A (call (.ref f) us) (EP X pins σ Q) X.xe s := by
  refine wpAny_call (codeAny_mono (F.run X.A X.stack s H us vs Q _ hg hr I.env0 r h) fun re s' hq => ?_)
  cases re with
  | error e => exact passAt tk σ pins H s e s' I hq
  | ok fl =>
    cases fl with
    | ret u => exact I.after hq
    | next => exact hq.elim
    | brk => exact hq.elim
    | cont => exact hq.elim
/-- an instance is made -/
theorem runK {ks : List Str} {sel : List Nat} {pins : List (Addr × Obj)} {σ : L2.St} {H : Hp} {s : Shared} {Q : VK} {us : List Value} {vs : List V} (F : FnK X.prog X.w X.K X.mg X.base k f ks sel sp) (hg : X.A.guards = some []) (hr : Room k X.A)
    (tk : Takes X W) (I : Inv X pins σ H s) (r : Vals vs us) (hl : us.length = ks.length) (h : sp (sel.map fun i => vs.getD i .non) H Q (WE W σ)) : wpAny (model X.prog X.w) X.A (call (.ref f) [] (ks.zip us)) (EP X pins σ Q) X.xe s := by
  refine wpAny_call (codeAny_mono (F.run X.A X.stack s H us vs Q _ hg hr I.env0 r hl h) fun re s' hq => ?_)
  cases re with
  | error e => exact passAt tk σ pins H s e s' I hq
  | ok fl =>
    cases fl with
    | ret u => exact I.after hq
    | next => exact hq.elim
    | brk => exact hq.elim
    | cont => exact hq.elim
/-- an instance is made -/
theorem runMkG {pins : List (Addr × Obj)} {σ : L2.St} {H : Hp} {s : Shared} {Q : VK} {us : List Value} {vs : List V} (M : Mk X.K C f) (F : FnB X.prog X.w X.K X.mg X.base k f sp) (hg : X.A.guards = some []) (hr : Room (k + 1) X.A)
    (tk : Takes X W) (I : Inv X pins σ H s) (r : Vals vs us)
    (h : ∀ x dx, H x = none → H dx = none → dx ≠ x → sp (.ref x :: vs) (upd (upd H dx (.own x)) x (.ins C dx [])) (fun v H2 => v = .non ∧ Q (.ref x) H2) (WE W σ)) :
    wpAny (model X.prog X.w) X.A (call (.ref C) us) (EP X pins σ Q) X.xe s := by
  have hq := h (s.heap.objs.size + 1) s.heap.objs.size (I.hok.fresh (Nat.le_succ _)) (I.hok.fresh (Nat.le_refl _)) (Nat.ne_of_lt (Nat.lt_succ_self _))
  have J := Inv.made (C := C) I
  have r2 : Vals (V.ref (s.heap.objs.size + 1) :: vs) (Value.ref (s.heap.objs.size + 1) :: us) := .cons rfl r
  refine wpAny_call (make_map (f := f) I.kIn M.makes M.init (beq_iff_eq.mp M.fn) (codeAny_mono (F.run _ X.stack _ _ (Value.ref (s.heap.objs.size + 1) :: us) _ _ _ (by rw [guards_make]; exact hg) (hr.make C us [])
    (J.env0.make C us []) r2 hq) fun re s' hq' => ?_))
  cases re with
  | error e => exact passAt tk σ pins _ _ e s' J hq'
  | ok fl =>
    cases fl with
    | ret u =>
      obtain ⟨v, H', I3, rv, ev, q3⟩ := J.after hq'
      subst ev
      exact ⟨rv, ⟨V.ref (s.heap.objs.size + 1), H', I3, rfl, q3⟩⟩
    | next => exact hq'.elim
    | brk => exact hq'.elim
    | cont => exact hq'.elim
end
end Fk
end
section
set_option maxHeartbeats 4000000
/-! Built-in functions by values. -/
namespace Fk
open PySem PySem.Spec PyProof.Rows L2

/-- the written part knows where sys.modules lies -/
def SysOk (K : PySem.W.Frag) : Prop := ∃ o, K.lookup sysModules = some o ∧ o.cls = .type "dict"
section
variable {X : Cx} {S : Sg} {μ : Mem} {H : Hp} {pins : List (Addr × Obj)} {σ : L2.St} {s : Shared}
theorem sys_ne (I : Inv X pins σ H s) (hs : SysOk X.K) {a : Addr} {o : HO} (h : H a = some o) : a ≠ sysModules := fun z => by
  obtain ⟨ob, e, _⟩ := hs
  have q := (I.bs sysModules ob (I.ok.mod.kin _ _ e)).2
  rw [← z, h] at q
  cases q
theorem ro_ne (I : Inv X pins σ H s) (hK : S.K = X.K) (hs : SysOk X.K) {a : Addr} {vs : List V} (h : ImL S μ H a vs) : a ≠ sysModules := by
  rcases h with ⟨_, _, h | ⟨o, h⟩⟩ | ⟨o, its, n, h, c, _⟩
  · exact sys_ne I hs h
  · exact sys_ne I hs h
  · intro z
    obtain ⟨ob, e, c2⟩ := hs
    rw [z, hK, e] at h
    cases h
    rw [c2] at c
    exact absurd c (by decide)
mutual
theorem Dat.reads (I : Inv X pins σ H s) (hK : S.K = X.K) (hs : SysOk X.K) : ∀ {d : D} {v : V} {p : PyData} {u : Value}, Dat S μ H v d → d.py = some p → RelV v u → ∃ as, Reads s.heap u p as ∧ sysModules ∉ as
  | .non, _, _, _, .non, e, r => by cases e; cases r; exact ⟨_, .none, by simp⟩
  | .bl b, _, _, _, .bl _, e, r => by cases e; cases r; exact ⟨_, .bool b, by simp⟩
  | .int i, _, _, _, .int _, e, r => by cases e; obtain ⟨t, rfl⟩ := r; exact ⟨_, .int i t, by simp⟩
  | .str x, _, _, _, .str _, e, r => by cases e; obtain ⟨t, rfl⟩ := r; exact ⟨_, .str x t, by simp⟩
  | .ref _, _, _, _, _, e, _ => by cases e
  | .ty _, _, _, _, _, e, _ => by cases e
  | .tup ds, _, p, _, .tup h rr, e, r => by
    have e' : (D.pyL ds).map PyData.tuple = some p := e
    cases q : D.pyL ds with
    | none => rw [q] at e'; cases e'
    | some xs =>
      rw [q] at e'
      cases e'
      cases r
      have h2 := h.sq
      rw [hK] at h2
      obtain ⟨its, rv, ⟨o, ho, hc, n, hd⟩, _⟩ := I.tuple h2
      obtain ⟨as, hr, hn⟩ := Dats.reads I hK hs rr q rv
      exact ⟨_, Reads.tuple ho hc hd hr, hn⟩
  | .list ds, _, p, _, .list m n h rr, e, r => by
    have e' : (D.pyL ds).map PyData.list = some p := e
    cases q : D.pyL ds with
    | none => rw [q] at e'; cases e'
    | some xs =>
      rw [q] at e'
      cases e'
      cases r
      obtain ⟨its, rv, ⟨o, n, ho, hc, _, hd⟩, _⟩ := I.list (SqL.of h)
      obtain ⟨as, hr, hn⟩ := Dats.reads I hK hs rr q rv
      exact ⟨_, Reads.list ho hc hd hr, by simp only [List.mem_cons, not_or]; exact ⟨fun z => sys_ne I hs h z.symm, hn⟩⟩
  | .ro ds, _, p, _, .ro h rr, e, r => by
    have e' : (D.pyL ds).map PyData.list = some p := e
    cases q : D.pyL ds with
    | none => rw [q] at e'; cases e'
    | some xs =>
      rw [q] at e'
      cases e'
      cases r
      have h2 := h.sq
      rw [hK] at h2
      obtain ⟨its, rv, ⟨o, n, ho, hc, _, hd⟩, _⟩ := I.list h2
      obtain ⟨as, hr, hn⟩ := Dats.reads I hK hs rr q rv
      exact ⟨_, Reads.list ho hc hd hr, by simp only [List.mem_cons, not_or]; exact ⟨fun z => ro_ne I hK hs h z.symm, hn⟩⟩
  | .dict ks ds, _, p, _, .dict m n h e1 e2 rr, e, r => by
    have e' : (if ks.isEmpty && ds.isEmpty then some (PyData.dict []) else none) = some p := e
    split at e'
    · rename_i hk
      cases e'
      cases r
      have hk2 := Bool.and_eq_true_iff.mp hk
      have k0 : ks = [] := List.isEmpty_iff.mp hk2.1
      subst k0
      obtain ⟨z, hd, vs, rel, o, es, ep, h1, h2, h3, h4, h5, h6⟩ := I.hok _ _ h
      have l0 := List.map_eq_nil_iff.mp e1
      subst l0
      cases rel
      have es0 : es.toList = [] := List.length_eq_zero_iff.mp h5.length
      refine ⟨_, Reads.dict (kvs := []) (as := []) (bs := []) h1 h2.1 h3 (by rw [es0]; exact .nil) (by rw [es0]; exact .nil), ?_⟩
      simp only [List.cons_append, List.nil_append, List.mem_cons, List.not_mem_nil, or_false]
      exact fun z => sys_ne I hs h z.symm
    · cases e'
theorem Dats.reads (I : Inv X pins σ H s) (hK : S.K = X.K) (hs : SysOk X.K) : ∀ {ds : List D} {vs : List V} {ps : List PyData} {us : List Value}, Dats S μ H vs ds → D.pyL ds = some ps → Vals vs us → ∃ as, ReadsAll s.heap us ps as ∧ sysModules ∉ as
  | [], _, _, _, .nil, e, r => by cases e; cases r; exact ⟨_, .nil, by simp⟩
  | d :: ds, _, ps, _, .cons h t, e, r => by
    have e' : (match D.py d, D.pyL ds with
      | some x, some xs => some (x :: xs)
      | _, _ => none) = some ps := e
    cases q : D.py d with
    | none => rw [q] at e'; cases e'
    | some x =>
      cases q2 : D.pyL ds with
      | none => rw [q, q2] at e'; cases e'
      | some xs =>
        rw [q, q2] at e'
        cases e'
        cases r with
        | cons r1 r2 =>
          obtain ⟨as, a1, a2⟩ := Dat.reads I hK hs h q r1
          obtain ⟨bs, b1, b2⟩ := Dats.reads I hK hs t q2 r2
          exact ⟨_, .cons a1 b1, by simp only [List.mem_append, not_or]; exact ⟨a2, b2⟩⟩
end
theorem reads_deref (I : Inv X pins σ H s) (hK : S.K = X.K) (hs : SysOk X.K) {d : D} {v : V} {p : PyData} {u : Value} (mm : Mm S μ H) (r : Dat S μ H v d) (e : (deref μ d).py = some p) (ru : RelV v u) : ∃ as, Reads s.heap u p as ∧ sysModules ∉ as := by
  by_cases hr : ∃ a ds, d = .ref a ∧ μ a = some (.lst ds)
  · obtain ⟨a, ds, rfl, ha⟩ := hr
    cases r
    obtain ⟨vs, h1, rr⟩ := mm.ok a _ ha
    have e2 : (D.list ds).py = some p := by
      have z : deref μ (.ref a) = .list ds := by simp only [deref, ha]
      rw [z] at e
      exact e
    have e' : (D.pyL ds).map PyData.list = some p := e2
    cases q : D.pyL ds with
    | none => rw [q] at e'; cases e'
    | some xs =>
      rw [q] at e'
      cases e'
      cases ru
      obtain ⟨its, rv, ⟨o, n, ho, hc, _, hd⟩, _⟩ := I.list (SqL.of h1)
      obtain ⟨as, hr, hn⟩ := Dats.reads I hK hs rr q rv
      exact ⟨_, Reads.list ho hc hd hr, by simp only [List.mem_cons, not_or]; exact ⟨fun z => sys_ne I hs h1 z.symm, hn⟩⟩
  · have hd : deref μ d = d := by
      unfold deref
      split
      · rename_i a
        split
        · rename_i ds h
          exact absurd ⟨a, ds, rfl, h⟩ hr
        · rfl
      · rfl
    rw [hd] at e
    exact r.reads I hK hs e ru
theorem Dats.readsT (I : Inv X pins σ H s) (hK : S.K = X.K) (hs : SysOk X.K) (mm : Mm S μ H) : ∀ {ds : List D} {vs : List V} {ps : List PyData} {us : List Value}, Dats S μ H vs ds → D.pyL (ds.map (deref μ)) = some ps → Vals vs us → ∃ as, ReadsAll s.heap us ps as ∧ sysModules ∉ as
  | [], _, _, _, .nil, e, r => by cases e; cases r; exact ⟨_, .nil, by simp⟩
  | d :: ds, _, ps, _, .cons h t, e, r => by
    have e' : (match D.py (deref μ d), D.pyL (ds.map (deref μ)) with
      | some x, some xs => some (x :: xs)
      | _, _ => none) = some ps := e
    cases q : D.py (deref μ d) with
    | none => rw [q] at e'; cases e'
    | some x =>
      cases q2 : D.pyL (ds.map (deref μ)) with
      | none => rw [q, q2] at e'; cases e'
      | some xs =>
        rw [q, q2] at e'
        cases e'
        cases r with
        | cons r1 r2 =>
          obtain ⟨as, a1, a2⟩ := reads_deref I hK hs mm h q r1
          obtain ⟨bs, b1, b2⟩ := Dats.readsT I hK hs mm t q2 r2
          exact ⟨_, .cons a1 b1, by simp only [List.mem_append, not_or]; exact ⟨a2, b2⟩⟩
theorem reads_derefT (I : Inv X pins σ H s) (hK : S.K = X.K) (hs : SysOk X.K) {d : D} {v : V} {p : PyData} {u : Value} (mm : Mm S μ H) (r : Dat S μ H v d) (e : (derefT μ d).py = some p) (ru : RelV v u) : ∃ as, Reads s.heap u p as ∧ sysModules ∉ as := by
  cases d with
  | tup ds =>
    have e' : (D.pyL (ds.map (deref μ))).map PyData.tuple = some p := e
    cases q : D.pyL (ds.map (deref μ)) with
    | none => rw [q] at e'; cases e'
    | some xs =>
      rw [q] at e'
      cases e'
      cases r with
      | tup h rr =>
        cases ru
        have h2 := h.sq
        rw [hK] at h2
        obtain ⟨its, rv, ⟨o, ho, hc, n, hd⟩, _⟩ := I.tuple h2
        obtain ⟨as, hr, hn⟩ := Dats.readsT I hK hs mm rr q rv
        exact ⟨_, Reads.tuple ho hc hd hr, hn⟩
  | _ => exact reads_deref I hK hs mm r e ru
end
def bfVal : BF → Value
  | .len => .builtin "len" | .min2 => .builtin "min" | .max2 => .builtin "max" | .abs => .builtin "abs" | .divmod => .builtin "divmod" | .repr => .builtin "repr" | .str1 => .type "str" | .int1 => .type "int"
  | .all => .builtin "all" | .any => .builtin "any" | .sum => .builtin "sum" | .sorted => .builtin "sorted" | .list _ => .type "list" | .tuple => .type "tuple" | .bool1 => .type "bool"
section
variable {X : Cx} {S : Sg}
theorem Dats.one {μ : Mem} {H : Hp} {vs : List V} {d : D} (r : Dats S μ H vs [d]) : ∃ v, vs = [v] ∧ Dat S μ H v d := by
  cases r with
  | cons h t =>
    cases t
    exact ⟨_, rfl, h⟩
theorem Dats.two {μ : Mem} {H : Hp} {vs : List V} {d e : D} (r : Dats S μ H vs [d, e]) : ∃ v w, vs = [v, w] ∧ Dat S μ H v d ∧ Dat S μ H w e := by
  cases r with
  | cons h t =>
    obtain ⟨w, rfl, h2⟩ := t.one
    exact ⟨_, _, rfl, h, h2⟩
theorem repr_any (hK : S.K = X.K) (hs : SysOk X.K) (hg : X.A.guards = some []) (hu : X.A.units + 64 < cLine) {pins : List (Addr × Obj)} {σ : L2.St} {H : Hp} {s : Shared} {μ : Mem} {d : D} {v : V} {p : PyData} {u : Value} {Q : VK}
    (I : Inv X pins σ H s) (mm : Mm S μ H) (r : Dat S μ H v d) (e : (derefT μ d).py = some p) (ru : RelV v u) (h1 : p.showable = true) (h2 : p.depth ≤ 60) (h3 : p.shown.length ≤ sizeLine) (q : Q (.str p.shown) H) :
    wpAny (model X.prog X.w) X.A (call (.builtin "repr") [u]) (EP X pins σ Q) X.xe s := by
  obtain ⟨as, rd, na⟩ := reads_derefT I hK hs mm r e ru
  have fin : ∀ h' x tk, (∀ b o, s.heap.get? b = some o → h'.get? b = some o) → EP X pins σ Q (.str p.shown x) { s with heap := h', toks := tk } := fun h' x tk kp => ⟨.str p.shown, H, I.kept kp, ⟨x, rfl⟩, q⟩
  cases rd with
  | none => exact P.repr_of_none (fin s.heap _ _ fun _ _ z => z)
  | bool b =>
    refine P.repr_of_bool ?_
    have := fin s.heap s.toks (s.toks + 1) fun _ _ z => z
    cases b <;> exact this
  | int i t =>
    have hi : i.natAbs.log2 < 1920 := of_decide_eq_true (by simpa [PyData.showable] using h1)
    exact P.repr_of_int hi (fin s.heap _ _ fun _ _ z => z)
  | str x t => exact P.repr_of_str (fin s.heap _ _ fun _ _ z => z) h3
  | list a b c dd => exact repr_of_reads' (Reads.list a b c dd) h1 (fun _ => na) hg (by omega) (fun _ _ z => z) fin h3
  | tuple a b c dd => exact repr_of_reads' (Reads.tuple a b c dd) h1 (fun _ => na) hg (by omega) (fun _ _ z => z) fin h3
  | dict a b c dd ee => exact repr_of_reads' (Reads.dict a b c dd ee) h1 (fun _ => na) hg (by omega) (fun _ _ z => z) fin h3
theorem call_bfS (hK : S.K = X.K) (hs : SysOk X.K) (hc : X.calm = true) (hg : X.A.guards = some []) (hu : X.A.units + 64 < cLine) (f : BF) : CallR X (bfVal f) (lC S (bfS f)) := by
  intro pins s σ H vs us Q I r h
  obtain ⟨xs, μ, Φ, mm, dx, h, k⟩ := h
  unfold bfS at h
  split at h
  · obtain ⟨v, rfl, d⟩ := dx.one
    cases d
    exact call_len_str pins s σ H _ us Q I r ⟨_, rfl, h.1, k.now mm (.int _) h.2⟩
  · split at h
    · rename_i ds hq
      obtain ⟨v, rfl, d⟩ := dx.one
      obtain ⟨a, ws, rfl, sq, rr⟩ := seq_sq mm d hq
      rw [hK] at sq
      refine call_len_seq pins s σ H _ us Q I r ⟨a, ws, rfl, sq, ?_⟩
      rw [rr.length]
      exact k.now mm (.int _) h
    · exact h.elim
  · obtain ⟨v, w, rfl, d, e⟩ := dx.two
    cases d; cases e
    exact call_min2 hc pins s σ H _ us Q I r ⟨_, _, rfl, k.now mm (.int _) h⟩
  · obtain ⟨v, w, rfl, d, e⟩ := dx.two
    cases d; cases e
    exact call_max2 hc pins s σ H _ us Q I r ⟨_, _, rfl, k.now mm (.int _) h⟩
  · obtain ⟨v, rfl, d⟩ := dx.one
    cases d
    exact call_abs pins s σ H _ us Q I r ⟨_, rfl, k.now mm (.int _) h⟩
  · obtain ⟨v, w, rfl, d, e⟩ := dx.two
    cases d; cases e
    exact call_divmodW pins s σ H _ us Q I r ⟨_, _, rfl, h.1.p, fun p hp => k.tup mm (.cons (.int _) (.cons (.int _) .nil)) h.2 p hp⟩
  · obtain ⟨v, rfl, d⟩ := dx.one
    cases d
    exact call_int1 pins s σ H _ us Q I r (.inl ⟨_, rfl, k.now mm (.int _) h⟩)
  · obtain ⟨v, rfl, d⟩ := dx.one
    cases d
    exact call_int1 pins s σ H _ us Q I r (.inr ⟨_, rfl, k.now mm (.int _) h⟩)
  · split at h
    · rename_i n hn
      obtain ⟨v, rfl, d⟩ := dx.one
      cases d
      exact call_int_str pins s σ H _ us Q I r ⟨_, n, rfl, hn, h.1, k.now mm (.int _) h.2⟩
    · exact h.elim
  · obtain ⟨v, rfl, d⟩ := dx.one
    cases d
    exact SkE.call_str_str pins s σ H _ us Q I r ⟨_, rfl, k.now mm (.str _) h⟩
  · obtain ⟨v, rfl, d⟩ := dx.one
    cases d
    exact call_str_int pins s σ H _ us Q I r ⟨_, rfl, h.1, k.now mm (.str _) h.2⟩
  · obtain ⟨v, rfl, d⟩ := dx.one
    obtain ⟨p, e, h1, h2, h3, h4⟩ := h
    obtain ⟨u, rfl, ru⟩ := vals1 r
    exact repr_any hK hs hg hu I mm d e ru h1 h2 h3 (k.now mm (.str _) h4)
  · split at h
    · rename_i bs hb
      obtain ⟨v, rfl, d⟩ := dx.one
      obtain ⟨ds, hd, hb⟩ := Option.bind_eq_some_iff.mp hb
      obtain ⟨a, ws, rfl, sq, rr⟩ := lst_sq mm d hd
      rw [hK] at sq
      have e := rr.bls hb
      subst e
      exact cr_all hc pins s σ H _ us Q I r ⟨a, bs, rfl, sq, k.now mm (.bl _) h⟩
    · exact h.elim
  · split at h
    · rename_i bs hb
      obtain ⟨v, rfl, d⟩ := dx.one
      obtain ⟨ds, hd, hb⟩ := Option.bind_eq_some_iff.mp hb
      obtain ⟨a, ws, rfl, sq, rr⟩ := lst_sq mm d hd
      rw [hK] at sq
      have e := rr.bls hb
      subst e
      exact cr_any hc pins s σ H _ us Q I r ⟨a, bs, rfl, sq, k.now mm (.bl _) h⟩
    · exact h.elim
  · split at h
    · rename_i bs hb
      obtain ⟨v, rfl, d⟩ := dx.one
      obtain ⟨ds, hd, hb⟩ := Option.bind_eq_some_iff.mp hb
      obtain ⟨a, ws, rfl, sq, rr⟩ := lst_sq mm d hd
      rw [hK] at sq
      have e := rr.ints hb
      subst e
      exact cr_sum hc pins s σ H _ us Q I r ⟨a, bs, rfl, sq, k.now mm (.int _) h⟩
    · exact h.elim
  · split at h
    · rename_i ns hb
      obtain ⟨v, rfl, d⟩ := dx.one
      obtain ⟨ds, hd, hb⟩ := Option.bind_eq_some_iff.mp hb
      obtain ⟨a, ws, rfl, sq, rr⟩ := lst_sq mm d hd
      rw [hK] at sq
      have e := rr.ints hb
      subst e
      refine cr_sorted pins s σ H _ us Q I r ⟨a, ns, rfl, sq, h.1, fun ns' p hp h1 h2 => ?_⟩
      first
        | exact k.lst mm dats_ints (h.2 ns' hp h1) p h2
        | exact k.lst mm dats_ints (h.2 ns' (by assumption) (by assumption)) p (by assumption)
    · exact h.elim
  · split at h
    · rename_i m x ds hq
      obtain ⟨v, rfl, d⟩ := dx.one
      obtain ⟨a, ws, rfl, sq, rr⟩ := seq_sq mm d hq
      rw [hK] at sq
      exact call_list_of pins s σ H _ us Q I r ⟨a, ws, rfl, sq, fun p hp => newL_ok mm rr h k p hp⟩
    · exact h.elim
  · obtain ⟨v, rfl, d⟩ := dx.one
    cases d with
    | tup hq rr =>
      have sq := hq.sq
      rw [hK] at sq
      exact call_tuple_of pins s σ H _ us Q I r ⟨_, _, rfl, .inr ⟨sq, k.now mm (.tup hq rr) h⟩⟩
  · split at h
    · rename_i ds hq
      obtain ⟨v, rfl, d⟩ := dx.one
      obtain ⟨a, ws, rfl, sq, rr⟩ := lst_sq mm d hq
      rw [hK] at sq
      exact call_tuple_of pins s σ H _ us Q I r ⟨a, ws, rfl, .inl ⟨sq, fun p hp => k.tup mm rr h p hp⟩⟩
    · exact h.elim
  · exact h.elim
end
end Fk
end
section
set_option maxHeartbeats 4000000
/-! Facts of the text's forms, for any expression. -/
namespace Fk
open PySem PySem.Spec PyProof.Rows L2

def noStar : Expr → Bool
  | .Starred _ _ => false
  | _ => true
def noSlice : Expr → Bool
  | .Slice _ _ _ _ => false
  | _ => true
def noComp : Expr → Bool
  | .ListComp _ _ _ _ => false
  | .SetComp _ _ _ _ => false
  | .DictComp _ _ _ _ _ => false
  | _ => true
/-- no call of super() -/
def noSup : Expr → Bool
  | .Call (.Name _ _) [] [] _ => false
  | _ => true
def noSet : Expr → Bool
  | .Set _ _ _ => false
  | _ => true
def noTup : Expr → Bool
  | .Tuple _ _ _ => false
  | .List _ _ => false
  | _ => true
theorem star_cons {e : Expr} {es : List Expr} {env : PySem.Env} (h : noStar e = true) : starEach (e :: es) env = (false, eval e env) :: starEach es env := by
  cases e <;> first
    | rfl
    | cases h
theorem star_any {pos : Pos} {env : PySem.Env} : ∀ {es : List Expr}, es.all noStar = true → (backTo pos (starEach es env)).any (·.1) = false
  | [], _ => rfl
  | e :: es, h => by
    have h2 := Bool.and_eq_true_iff.mp (show (noStar e && es.all noStar) = true from h)
    rw [star_cons h2.1]
    show (false || (backTo pos (starEach es env)).any (·.1)) = false
    rw [star_any h2.2]
    rfl
theorem star_all {pos : Pos} {env : PySem.Env} : ∀ {es : List Expr}, es.all noStar = true → (backTo pos (starEach es env)).all (fun x => !x.1) = true
  | [], _ => rfl
  | e :: es, h => by
    have h2 := Bool.and_eq_true_iff.mp (show (noStar e && es.all noStar) = true from h)
    rw [star_cons h2.1]
    show (true && (backTo pos (starEach es env)).all (fun x => !x.1)) = true
    rw [star_all h2.2]
    rfl
theorem base_of {o : Expr} {f : Str} {env : PySem.Env} (h : noSup o = true) : attributeBase o f env (eval o env) = eval o env := by
  unfold attributeBase
  split
  · cases h
  · rfl
theorem swaps_no {e : Expr} {t : Option Expr} {l : Nat} {env : PySem.Env} (h : noComp e = true) : swapsWith e t l env = pure false := by
  unfold swapsWith
  cases e <;> first
    | rfl
    | cases h
theorem swaps_sole {t e : Expr} {l : Nat} {env : PySem.Env} (h : noComp e = true) : swapsWithSole [t] e l env = pure false := swaps_no h
theorem swapped_no {t e : Expr} {env : PySem.Env} (h : noTup t = true ∨ noTup e = true) : swappedStores [t] e env = pure none := by
  unfold swappedStores
  cases t <;> first
    | rfl
    | (cases e <;> first
        | rfl
        | (rcases h with h | h <;> cases h))
theorem assign_one {t : Expr} {env : PySem.Env} (h : noStar t = true) : (assignEach [t] env).map (·.2) = [assign t env] := by
  cases t <;> first
    | rfl
    | cases h
theorem folded_no {e : Expr} {env : PySem.Env} (h : noSet e = true) (x : Value) : foldedSetIterable e env x = pure x := by
  unfold foldedSetIterable
  cases e <;> first
    | rfl
    | cases h
theorem plainIx_of {b : Expr} (h : noSlice b = true) : PlainIx b := by
  intro o i
  cases b <;> first
    | rfl
    | cases h
/-- o.m(..), the tree -/
theorem meth_tree {o : Expr} {m : Str} {apos pos : Pos} {es : List Expr} {env : PySem.Env} (h1 : noSup o = true) (h2 : es.all noStar = true) (h3 : decide (es.length < 30) = true) (h4 : (apos.endLine == pos.line) = true) :
    eval (.Call (.Attribute o m apos) es [] pos) env = (do
      let ov ← eval o env
      standAt apos.atName
      let (f, first) ← holding [ov] (getMethod ov m (do return (← importBound o env).getD true))
      callWith pos f first (backTo pos (starEach es env)) (backToKw pos (keywordEach [] env))) := by
  have hb := base_of (f := m) (env := env) h1
  have hf : methodCallForm (es.length + ([] : List Keyword).length) (backTo pos (starEach es env)) (backToKw pos (keywordEach [] env)) = true := by
    unfold methodCallForm
    rw [star_all h2]
    show (true && (true && decide (es.length + 0 + 0 < 30))) = true
    simpa using h3
  have e0 : eval (.Call (.Attribute o m apos) es [] pos) env = (do
      let ov ← attributeBase o m env (eval o env)
      standAt apos.atName
      methodCall o m apos pos env ov (es.length + ([] : List Keyword).length) (backTo pos (starEach es env)) (backToKw pos (keywordEach [] env))) := rfl
  rw [e0, hb]
  have e1 : ∀ ov, methodCall o m apos pos env ov (es.length + ([] : List Keyword).length) (backTo pos (starEach es env)) (backToKw pos (keywordEach [] env)) = (do
      let (f, first) ← holding [ov] (getMethod ov m (do return (← importBound o env).getD true))
      callWith pos f first (backTo pos (starEach es env)) (backToKw pos (keywordEach [] env))) := fun ov => by
    have c1 : calleeOf (methodCallForm (es.length + ([] : List Keyword).length) (backTo pos (starEach es env)) (backToKw pos (keywordEach [] env))) o env ov m = getMethod ov m (do return (← importBound o env).getD true) := by
      rw [hf] <;> rfl
    have c2 : methodCallPos (methodCallForm (es.length + ([] : List Keyword).length) (backTo pos (starEach es env)) (backToKw pos (keywordEach [] env))) o env apos pos = pure pos := by
      unfold methodCallPos
      exact if_pos (by rw [h4, Bool.or_true])
    unfold methodCall
    rw [c1, c2]
    first
      | rfl
      | simp only [pure_bind]
  simp only [e1]
/-- a value's truth where the text asks a test: whatever form it has -/
theorem PT.of_bool {X : Cx} {e : Expr} {t : TE} (h : PE X e t) (he : ∀ whole, isTrue e X.env whole = (do let v ← whole; standAt e.pos; holding [v] (truthy v))) : PT X e (tTest t) := by
  refine ⟨fun pins s σ H Q I q => ?_⟩
  rw [he]
  refine wpAny_bind (thn (h.run pins s σ H _ I q) fun v s1 z => wpAny_bind (wpAny_standAt (wpAny_holding ?_)))
  obtain ⟨x, H1, I1, r, k, e1, q1⟩ := z
  subst e1
  cases r
  exact wpAny_truthy_bool ⟨H1, I1, q1⟩
end Fk
end
section
set_option maxHeartbeats 4000000
/-! Where one stands; calls; instances. -/
namespace Fk
open PySem PySem.Spec PyProof.Rows L2

/-- a def's promise by what values are worth -/
def lSp (T : Tbl) (K : PySem.W.Frag) (A : List D → Mem → AQ → AX → Prop) : Sp := fun vs H Q E =>
  ∃ hid ds μ Φ Ψ, Mm (mkS T K hid) μ H ∧ Dats (mkS T K hid) μ H vs ds ∧ A ds μ Φ Ψ ∧ KQ (mkS T K hid) μ H Φ Q ∧ KX (mkS T K hid) μ H Ψ E
def freeNames : List Str := ["len", "min", "max", "abs", "divmod", "repr", "str", "int", "all", "any", "sum", "sorted", "list", "tuple", "bool", "range", "enumerate", "zip", "isinstance", "dict", "set", "ValueError", "LookupError", "RuntimeError", "ArithmeticError", "reversed", "print"]
def cA (T : Tbl) (K : PySem.W.Frag) (c : Nat) : Addr := He.ga K (T.cls.getD c "")
def fN (T : Tbl) (f : Nat) : Str := T.flds.getD f ""
def mN (T : Tbl) (m : Nat) : Str := T.mths.getD m ""
/-- a class in isinstance's words -/
def icU (T : Tbl) (K : PySem.W.Frag) : IC → Value
  | .ty n => .type n
  | .own c => .ref (cA T K c)
def icV (T : Tbl) (K : PySem.W.Frag) : IC → V
  | .ty n => .ty n
  | .own c => .ref (cA T K c)
theorem icCls (T : Tbl) (K : PySem.W.Frag) (i : IC) : ClsV (icV T K i) (icU T K i) := by cases i <;> constructor
def kinds : List String := ["NoneType", "bool", "int", "str", "tuple", "list", "dict"]
/-- what an instance's class must have, so that isinstance asks it rightly -/
structure InsOk (K : PySem.W.Frag) (C : Addr) : Prop where
  cl : Cls K C
  ha : PySem.W.findIn K (.ref C) "__class__" = some (some (.builtin "object.__class__"))
  hn : PySem.W.specialIn K (.builtin "object.__class__") "__get__" = some (some (.builtin "getset_descriptor.__get__"))
  ht : PySem.W.takesIn K (.builtin "object.__class__") = some true
  hm : PySem.W.mroIn K C (.type "object") = some true
structure TOk (T : Tbl) (K : PySem.W.Frag) (mg : Str → Option Value) (w : World) : Prop where
  sys : SysOk K
  free : ∀ x ∈ freeNames, mg x = none
  fglo : ∀ (f : Nat) (fd : Fdef) (x : Str), T.fs[f]? = some fd → fd.at_ = (x, none) → mg x = some (.ref (He.fAd K fd.at_)) ∧ PySem.W.keepIn K (.ref (He.fAd K fd.at_)) = true
  cglo : ∀ (c : Nat) (x : Str), T.cls[c]? = some x → mg x = some (.ref (He.ga K x))
  meth : ∀ (c m f : Nat), T.meth c m = some f → ∃ fd : Fdef, T.fs[f]? = some fd ∧ Cls K (cA T K c) ∧ Meth K (cA T K c) (mN T m) (He.fAd K fd.at_) ∧ mN T m ∉ T.flds
  init : ∀ (c f : Nat), T.init c = some f → ∃ fd : Fdef, T.fs[f]? = some fd ∧ Mk K (cA T K c) (He.fAd K fd.at_) ∧ InsOk K (cA T K c) ∧ ∀ g : Nat, g < T.flds.length → NoAttr K (cA T K c) (fN T g)
  len : ∀ (c f : Nat), T.lenF c = some f → ∃ fd : Fdef, T.fs[f]? = some fd ∧ PySem.W.findIn K (.ref (cA T K c)) "__len__" = some (some (.ref (He.fAd K fd.at_))) ∧ PySem.W.isFn K (.ref (He.fAd K fd.at_)) = true
  eq : ∀ (c f : Nat), T.eqF c = some f → ∃ fd : Fdef, T.fs[f]? = some fd ∧ PySem.W.findIn K (.ref (cA T K c)) "__eq__" = some (some (.ref (He.fAd K fd.at_))) ∧ PySem.W.isFn K (.ref (He.fAd K fd.at_)) = true ∧
    PySem.W.findIn K (.ref (cA T K c)) "__ne__" = some (some (.builtin "object.__ne__")) ∧ InsOk K (cA T K c) ∧ (∀ n ∈ kinds, PySem.W.notFirst K (cA T K c) (.type n) = true) ∧ ∀ c' f', T.init c' = some f' → PySem.W.notFirst K (cA T K c) (.ref (cA T K c')) = true
  isI : ∀ (c : Nat) (i : IC) (b : Bool), T.isI c i = some b → InsOk K (cA T K c) ∧ PySem.W.kitOne K (.ref (cA T K c)) (icU T K i) = some b
  isX : ∀ (c : Nat) (i : IC) (b : Bool), T.isX c i = some b → ExcC K (cA T K c) ∧ PySem.W.kitOne K (.ref (cA T K c)) (icU T K i) = some b
  kown : ∀ c : Nat, c < T.cls.length → ∀ n ∈ kinds, PySem.W.kitOne K (.type n) (.ref (cA T K c)) = some false
  exc : ∀ (c : Nat) (o : Option Nat), T.excF c = some o → XfC K (cA T K c) ∧ PySem.W.typeIn K (.ref (cA T K c)) = some (.type "type") ∧ PySem.W.keepIn K (.ref (cA T K c)) = true ∧ (∀ g : Nat, g < T.flds.length → PySem.W.findIn K (.ref (cA T K c)) (fN T g) = some none) ∧
    (o = none → ∃ B newId initId bmB, ExcBaseFacts B newId initId bmB ∧ PySem.W.excIn K (cA T K c) bmB newId = true)
  subX : ∀ (c d : Nat) (b : Bool), T.subX c d = some b → PySem.W.exmOne K (.ref (cA T K c)) (.ref (cA T K d)) = some b
  glo : ∀ (x : Str) (d : D), T.glo x = some d → ∃ (u : Value) (v : V), mg x = some u ∧ RelV v u ∧ ∀ hid μ H, Dat (mkS T K hid) μ H v d
  gds : ∀ (x : Str) (kvs : List (Str × D)), T.gds x = some kvs → ∃ (a : Addr) (es : Array DictEntry) (n : Nat), mg x = some (.ref a) ∧ KDict K w a es n ∧
    (∀ z d, kvs.lookup z = some d → ∃ u v, PySem.W.nsIn K a z = some (some u) ∧ RelV v u ∧ ∀ hid μ H, Dat (mkS T K hid) μ H v d) ∧ ∀ z, kvs.lookup z = none → PySem.W.nsIn K a z = some none
  fnd : T.flds.Nodup
  fne : ∀ x ∈ T.flds, x ≠ ""
/-- what the __init__ of an own exception with one field does -/
def spX (T : Tbl) (K : PySem.W.Frag) (c f : Nat) : Sp := fun vs H Q _ => ∃ (a : Addr) (v : V), vs = [.ref a, v] ∧ H a = some (exo a (cA T K c) none) ∧ ∀ dx, H dx = none → dx ≠ a → Q .non (upd (upd H dx (exd dx [(fN T f, v)])) a (exo a (cA T K c) (some dx)))
structure Site (T : Tbl) (call : ACall) (k : Nat) (N : List Str) (sc cs : Scope) (cm : Bool) (Pn : PX) (X : Cx) : Prop where
  hN : X.N = N
  nd : N.Nodup
  hsc : X.env.scope = sc
  fn : ∀ x, cs.names.lookup x = some .cell → X.fn x = true
  calm : cm = true → X.calm = true ∧ Room (k + 1) X.A ∧ Pn = noPn
  gd : X.A.guards = some []
  un : X.A.units + 64 < cLine
  tk : TOk T X.K X.mg X.w
  fs : ∀ (f : Nat) (fd : Fdef), T.fs[f]? = some fd → FnB X.prog X.w X.K X.mg X.base k (He.fAd X.K fd.at_) (lSp T X.K (call f))
  ks : ∀ (f : Nat) (fd : Fdef) (kc : List Str × List Nat), T.fs[f]? = some fd → kc ∈ fd.kcs → FnK X.prog X.w X.K X.mg X.base k (He.fAd X.K fd.at_) kc.1 kc.2 (lSp T X.K (call f))
  xs : ∀ (c f : Nat), T.excF c = some (some f) → f < T.flds.length ∧ OexC X.K (cA T X.K c) ∧ ∃ (fi : Addr) (fdt : FuncData) (ps : List Str), PySem.W.findIn X.K (.ref (cA T X.K c)) "__init__" = some (some (.ref fi)) ∧ PySem.W.typeIn X.K (.ref fi) = some (.type "function") ∧
    FnG X.prog X.w X.K X.mg X.base k fi fdt ps (spX T X.K c f) ∧ Binds X.K fdt ps []
  pn : ∀ a c dd, Pn a c dd → ∃ oe vs, (a, oe) ∈ X.pn ∧ Zc (.ref (cA T X.K c)) dd oe ∧ oe.data = .fields vs

section
variable {T : Tbl} {call : ACall} {k : Nat} {N : List Str} {sc cs : Scope} {X : Cx} {hid : Addr → Prop} {W : WX} {μ : Mem} {H : Hp}
/-- the callee's promise, from where it is called -/
theorem lSp.go {A : List D → Mem → AQ → AX → Prop} {ds : List D} {vs : List V} {Φ : AQ} {Ψ : AX} {Q : VK} {E : XK} (mm : Mm (mkS T X.K hid) μ H) (r : Dats (mkS T X.K hid) μ H vs ds) (h : A ds μ Φ Ψ)
    (kq : KQ (mkS T X.K hid) μ H Φ Q) (kx : KX (mkS T X.K hid) μ H Ψ E) : lSp T X.K A vs H Q E := ⟨hid, ds, μ, Φ, Ψ, mm, r, h, kq, kx⟩
theorem pe_callW {f : Nat} {fd : Fdef} {x : Str} {p pos : Pos} {es : List Expr} {wa : AEs} (st : Site T call k N sc cs true noPn X) (tk : Takes X W) (hf : T.fs[f]? = some fd) (ha : fd.at_ = (x, none)) (hg : Gl X x)
    (hd : (x == ("__debug__" : Str)) = false) (hs : es.all noStar = true) (pa : PA X es (lA (mkS T X.K hid) noPn W wa)) (h0 : es = [] → ∀ ρ μ B Ψ, wa ρ μ B Ψ → B [] μ) :
    PE X (.Call (.Name x p) es [] pos) (lE (mkS T X.K hid) noPn W fun ρ μ Φ Ψ => wa ρ μ (fun ds μ1 => call f ds μ1 Φ Ψ) Ψ) := by
  refine ⟨fun pins s σ H Q I h => ?_⟩
  obtain ⟨ρ, μ, Φ, Ψ, s2, hw, kq, kx⟩ := h
  obtain ⟨hm, hk⟩ := st.tk.fglo f fd x hf ha
  have F := st.fs f fd hf
  obtain ⟨hc, hr, _⟩ := st.calm rfl
  have fin : ∀ pos', wpAny (model X.prog X.w) X.A (spliced (backTo pos' (starEach es X.env))) (fun us s1 => X.K.In s1.heap ∧ wpAny (model X.prog X.w) X.A (PySem.call (.ref (He.fAd X.K fd.at_)) ([] ++ us)) (EP X pins σ Q) X.xe s1) X.xe s := fun pos' => by
    refine thn (pa.run pos' pins s σ H _ I (lA.bind s2 hw kx (R := fun vs H1 => lSp T X.K (call f) vs H1 Q (WE W σ)) fun xs μ1 vxs H1 g s3 r kx1 b => lSp.go s3.mm r b (kq.grow g) kx1)) fun us s1 ⟨vs, H1, I1, r, q⟩ => ⟨I1.kIn, ?_⟩
    exact runG F st.gd (hr.mono (Nat.le_succ _)) tk I1 r q
  refine wpAny_Call_Name_kw (ld_glob I hg hm ?_ hd)
  cases es with
  | nil =>
    refine PySem.W.callWith_K0 I.kIn hk ?_
    exact runG F st.gd (hr.mono (Nat.le_succ _)) tk I .nil (lSp.go s2.mm .nil (h0 rfl ρ μ _ Ψ hw) kq kx)
  | cons e es =>
    have h2 := Bool.and_eq_true_iff.mp (show (noStar e && es.all noStar) = true from hs)
    exact PySem.W.callWith_K (h₀ := X.base) I.ok.mod.kin hk (fin pos) (star_cons h2.1) (star_any h2.2)
theorem dats_sel {S : Sg} {vs : List V} {ds : List D} (r : Dats S μ H vs ds) : ∀ sel : List Nat, Dats S μ H (sel.map fun i => vs.getD i .non) (sel.map fun i => ds.getD i .non)
  | [] => .nil
  | i :: l => .cons (go r i) (dats_sel r l)
where go : ∀ {vs : List V} {ds : List D}, Dats S μ H vs ds → ∀ i : Nat, Dat S μ H (vs.getD i .non) (ds.getD i .non)
  | _, _, .nil, i => .non
  | _, _, .cons r t, 0 => r
  | _, _, .cons r t, i + 1 => go t i
/-- f(x = e, ..): names alone -/
theorem pe_kcallW {f : Nat} {fd : Fdef} {kc : List Str × List Nat} {x : Str} {p pos : Pos} {kws : List Keyword} {wa : AEs} (st : Site T call k N sc cs true noPn X) (tk : Takes X W) (hf : T.fs[f]? = some fd) (hkc : kc ∈ fd.kcs) (ha : fd.at_ = (x, none)) (hg : Gl X x)
    (hd : (x == ("__debug__" : Str)) = false) (pa : PK X kws (lA (mkS T X.K hid) noPn W wa)) (hall : (backToKw pos (keywordEach kws X.env)).all (·.1.isSome) = true) (hks : (backToKw pos (keywordEach kws X.env)).filterMap (·.1) = kc.1)
    (hpl : ((backTo pos (starEach [] X.env)).any (·.1) || (backToKw pos (keywordEach kws X.env)).any (·.1.isNone)) = false) :
    PE X (.Call (.Name x p) [] kws pos) (lE (mkS T X.K hid) noPn W fun ρ μ Φ Ψ => wa ρ μ (fun ds μ1 => ds.length = kc.1.length ∧ call f (kc.2.map fun i => ds.getD i .non) μ1 Φ Ψ) Ψ) := by
  refine ⟨fun pins s σ H Q I h => ?_⟩
  obtain ⟨ρ, μ, Φ, Ψ, s2, hw, kq, kx⟩ := h
  obtain ⟨hm, hk⟩ := st.tk.fglo f fd x hf ha
  have F := st.ks f fd kc hf hkc
  obtain ⟨hc, hr, _⟩ := st.calm rfl
  refine wpAny_Call_Name_kw (ld_glob I hg hm ?_ hd)
  refine PySem.W.callWith_KW0 (h₀ := X.base) I.ok.mod.kin hk hall (thn (pa.run pos pins s σ H _ I (lA.bind s2 hw kx (R := fun vs H1 => vs.length = kc.1.length ∧ lSp T X.K (call f) (kc.2.map fun i => vs.getD i .non) H1 Q (WE W σ)) fun xs μ1 vxs H1 g s3 r kx1 b =>
    ⟨r.length.trans b.1, lSp.go s3.mm (dats_sel r kc.2) b.2 (kq.grow g) kx1⟩)) fun us s1 ⟨vs, H1, I1, r, hl, q⟩ => ⟨I1.kIn, ?_⟩) hpl
  rw [hks]
  exact runK F st.gd (hr.mono (Nat.le_succ _)) tk I1 r (r.length.symm.trans hl) q
theorem lookup_none_of {ws : List (Str × V)} {fs : List (Nat × D)} {S : Sg} (h : Flds S μ H ws fs) {m : Str} (hm : ∀ f, S.fN f ≠ m) : ws.lookup m = none := by
  cases e : ws.lookup m with
  | none => rfl
  | some v =>
    obtain ⟨f, h1, _⟩ := h.2.1 m v e
    exact absurd h1.symm (hm f)
/-- a method's name is no field's (nor the name that stands for none) -/
theorem mth_ne {m : Nat} (h : mN T m ∉ T.flds) (h2 : mN T m ≠ "") (f : Nat) : fN T f ≠ mN T m := fun z => by
  unfold fN at z
  rw [List.getD_eq_getElem?_getD] at z
  cases q : T.flds[f]? with
  | none =>
    rw [q] at z
    exact h2 z.symm
  | some y =>
    rw [q] at z
    exact h (z ▸ List.mem_of_getElem? q)
def wMeth (T : Tbl) (call : ACall) (m : Nat) (wo : AE) (wa : AEs) : AE := fun ρ μ Φ Ψ => wo ρ μ (fun x μ1 => match x with
    | .ref a => (match μ1 a with
      | some (.ins c _) => (match T.meth c m with
        | some f => wa ρ μ1 (fun ds μ2 => call f (.ref a :: ds) μ2 Φ Ψ) Ψ
        | none => False)
      | _ => False)
    | _ => False) Ψ
theorem pe_methW {m : Nat} {o : Expr} {apos pos : Pos} {es : List Expr} {wo : AE} {wa : AEs} (st : Site T call k N sc cs true noPn X) (tk : Takes X W) (hn2 : mN T m ≠ "")
    (h1 : noSup o = true) (hs : es.all noStar = true) (h3 : decide (es.length < 30) = true) (h4 : (apos.endLine == pos.line) = true) (po : PE X o (lE (mkS T X.K hid) noPn W wo)) (pa : PA X es (lA (mkS T X.K hid) noPn W wa))
    (h0 : es = [] → ∀ ρ μ B Ψ, wa ρ μ B Ψ → B [] μ) :
    PE X (.Call (.Attribute o (mN T m) apos) es [] pos) (lE (mkS T X.K hid) noPn W (wMeth T call m wo wa)) := by
  refine ⟨fun pins s σ H Q I h => ?_⟩
  obtain ⟨ρ, μ, Φ, Ψ, s2, hw, kq, kx⟩ := h
  obtain ⟨hc, hr, _⟩ := st.calm rfl
  refine PySem.W.methodCall_KW (pl := do return (← importBound o X.env).getD true) (thn (po.run pins s σ H _ I (lE.bind s2 hw kx (R := fun vx H1 => ∃ a μ1 c fs f, vx = .ref a ∧ Grow μ H μ1 H1 ∧ St2 (mkS T X.K hid) noPn ρ σ μ1 H1 ∧ μ1 a = some (.ins c fs) ∧ T.meth c m = some f ∧
    KX (mkS T X.K hid) μ1 H1 Ψ (fun cls dd H' => W cls dd σ H') ∧ wa ρ μ1 (fun ds μ2 => call f (.ref a :: ds) μ2 Φ Ψ) Ψ) fun x μ1 vx H1 g s3 r kx1 b => by
      split at b
      · rename_i a
        split at b
        · rename_i c fs ha
          split at b
          · rename_i f hf
            cases r
            exact ⟨a, μ1, c, fs, f, rfl, g, s3, ha, hf, kx1, b⟩
          · exact b.elim
        · exact b.elim
      · exact b.elim)) fun ov s1 z => ?_) (meth_tree h1 hs h3 h4)
  obtain ⟨vx, H1, I1, rx, a, μ1, c, fs, f, rfl, g1, s3, ha, hf, kx1, hw2⟩ := z
  cases rx
  obtain ⟨fd, hfd, cl, mt, nf⟩ := st.tk.meth c m f hf
  have F := st.fs f fd hfd
  obtain ⟨dx0, ws, hH, fl⟩ := s3.mm.ok a _ ha
  have hl : ws.lookup (mN T m) = none := lookup_none_of fl (mth_ne nf hn2)
  refine getmeth_ok I1 hH cl mt hl ?_
  have fin : ∀ pos', wpAny (model X.prog X.w) X.A (spliced (backTo pos' (starEach es X.env))) (fun us s2 => X.K.In s2.heap ∧ wpAny (model X.prog X.w) X.A (PySem.call (.ref (He.fAd X.K fd.at_)) ([Value.ref a] ++ us)) (EP X pins σ Q) X.xe s2) X.xe s1 := fun pos' => by
    refine thn (pa.run pos' pins s1 σ H1 _ I1 (lA.bind s3 hw2 kx1 (R := fun vs H2 => lSp T X.K (call f) (V.ref a :: vs) H2 Q (WE W σ)) fun xs μ2 vxs H2 g s4 r kx2 b => lSp.go s4.mm (.cons (.ref a) r) b ((kq.grow g1).grow g) kx2)) fun us s2 ⟨vs, H2, I2, r, q⟩ => ⟨I2.kIn, ?_⟩
    exact runG F st.gd (hr.mono (Nat.le_succ _)) tk I2 (us := Value.ref a :: us) (vs := V.ref a :: vs) (.cons rfl r) q
  cases es with
  | nil =>
    refine PySem.W.callWith_K0 (first := [Value.ref a]) I1.kIn mt.kp ?_
    exact runG F st.gd (hr.mono (Nat.le_succ _)) tk I1 (us := [Value.ref a]) (vs := [V.ref a]) (.cons rfl .nil) (lSp.go s3.mm (.cons (.ref a) .nil) (h0 rfl ρ μ1 _ Ψ hw2) (kq.grow g1) kx1)
  | cons e es =>
    have h2 := Bool.and_eq_true_iff.mp (show (noStar e && es.all noStar) = true from hs)
    exact PySem.W.callWith_K (first := [Value.ref a]) (h₀ := X.base) I1.ok.mod.kin mt.kp (fin pos) (star_cons h2.1) (star_any h2.2)
end
end Fk
end
section
set_option maxHeartbeats 4000000
/-! Instances by values: made, read, written, len, ==; isinstance. -/
namespace Fk
open PySem PySem.Spec PyProof.Rows L2

mutual
/-- the slots that a target sets -/
def CT.own : CT → List Nat
  | .nm i => [i]
  | .sub _ _ => []
  | .att _ _ => []
  | .tup ts => ts.own
  | .star i j => [i, j]
def CTs.own : CTs → List Nat
  | .nil => []
  | .cons t ts => t.own ++ ts.own
end
/-- the same but at these slots -/
def SlB (ow : List Nat) (σ σ' : L2.St) : Prop := σ'.length = σ.length ∧ ∀ j, j ∉ ow → σ'[j]? = σ[j]?
theorem SlB.refl (ow : List Nat) (σ : L2.St) : SlB ow σ σ := ⟨rfl, fun _ _ => rfl⟩
theorem SlB.set {ow : List Nat} {σ σ' : L2.St} {i : Nat} {o : Option V} (h : SlB ow σ σ') (hi : i ∈ ow) : SlB ow σ (σ'.set i o) :=
  ⟨by rw [List.length_set]; exact h.1, fun j hj => by
    have ne : i ≠ j := fun e => hj (e ▸ hi)
    rw [List.getElem?_set_ne ne]
    exact h.2 j hj⟩
theorem SlB.trans {a b : List Nat} {σ σ1 σ2 : L2.St} (h : SlB a σ σ1) (g : SlB b σ1 σ2) : SlB (a ++ b) σ σ2 :=
  ⟨g.1.trans h.1, fun j hj => (g.2 j fun z => hj (List.mem_append_right _ z)).trans (h.2 j fun z => hj (List.mem_append_left _ z))⟩
theorem wipe_get {σ : L2.St} : ∀ {vs : List Nat} {j : Nat}, (wipe σ vs)[j]? = if j ∈ vs then (if j < σ.length then some none else none) else σ[j]?
  | [], j => by simp [wipe]
  | v :: vs, j => by
    unfold wipe
    by_cases e : v = j
    · subst e
      rw [if_pos List.mem_cons_self]
      by_cases hl : v < σ.length
      · rw [List.getElem?_set_self (by rw [wipe_length]; exact hl), if_pos hl]
      · rw [List.getElem?_eq_none (by rw [List.length_set, wipe_length]; omega), if_neg hl]
    · rw [List.getElem?_set_ne e, wipe_get (vs := vs)]
      by_cases h2 : j ∈ vs
      · rw [if_pos h2, if_pos (List.mem_cons_of_mem _ h2)]
      · rw [if_neg h2, if_neg fun z => (List.mem_cons.mp z).elim (fun q => e q.symm) h2]
theorem SlB.wipe {ow vs : List Nat} {σ σ' : L2.St} (h : SlB ow (wipe σ vs) σ') (hs : ∀ i ∈ ow, i ∈ vs) : L2.wipe σ' vs = L2.wipe σ vs := by
  have hl : σ'.length = σ.length := by rw [h.1, wipe_length]
  apply List.ext_getElem?
  intro j
  rw [wipe_get, wipe_get]
  by_cases hj : j ∈ vs
  · rw [if_pos hj, if_pos hj, hl]
  · rw [if_neg hj, if_neg hj, h.2 j fun z => hj (hs j z), wipe_get, if_neg hj]
theorem mkS_cA (T : Tbl) (K : PySem.W.Frag) (hid : Addr → Prop) (c : Nat) : (mkS T K hid).cA c = cA T K c := rfl
theorem mkS_fN (T : Tbl) (K : PySem.W.Frag) (hid : Addr → Prop) (f : Nat) : (mkS T K hid).fN f = fN T f := rfl
theorem flds_nil {S : Sg} {μ : Mem} {H : Hp} : Flds S μ H [] [] := by
  refine ⟨fun f d e => ?_, fun nm v e => ?_, Nat.le_refl _⟩
  · simp at e
  · simp at e
section
variable {T : Tbl} {call : ACall} {k : Nat} {N : List Str} {sc cs : Scope} {X : Cx} {hid : Addr → Prop} {W : WX} {μ : Mem} {H : Hp} {cm : Bool} {Pn : PX}
/-- C(..) -/
theorem pe_newW {c : Nat} {x : Str} {p pos : Pos} {es : List Expr} {wa : AEs} (st : Site T call k N sc cs true noPn X) (tk : Takes X W) (hx : T.cls[c]? = some x) (hg : Gl X x)
    (hd : (x == ("__debug__" : Str)) = false) (hs : es.all noStar = true) (pa : PA X es (lA (mkS T X.K hid) noPn W wa)) (h0 : es = [] → ∀ ρ μ B Ψ, wa ρ μ B Ψ → B [] μ) :
    PE X (.Call (.Name x p) es [] pos) (lE (mkS T X.K hid) noPn W fun ρ μ Φ Ψ => wa ρ μ (fun ds μ1 => match T.init c with
      | some f => ∀ a, μ1 a = none → call f (.ref a :: ds) (mset μ1 a (.ins c [])) (fun r μ2 => match r with
        | .non => Φ (.ref a) μ2
        | _ => False) Ψ
      | none => False) Ψ) := by
  refine ⟨fun pins s σ H Q I h => ?_⟩
  obtain ⟨ρ, μ, Φ, Ψ, s2, hw, kq, kx⟩ := h
  obtain ⟨hc, hr, _⟩ := st.calm rfl
  have hm := st.tk.cglo c x hx
  cases hi : T.init c with
  | none =>
    simp only [hi] at hw
    -- the arguments may not come to an end: then there is nothing to be made
    refine wpAny_Call_Name_kw (ld_glob I hg hm ?_ hd)
    cases es with
    | nil => exact (h0 rfl ρ μ _ Ψ hw).elim
    | cons e es =>
      have h2 := Bool.and_eq_true_iff.mp (show (noStar e && es.all noStar) = true from hs)
      have fin : wpAny (model X.prog X.w) X.A (spliced (backTo pos (starEach (e :: es) X.env))) (fun us s1 => False) X.xe s :=
        thn (pa.run pos pins s σ H _ I (lA.bind s2 hw kx (R := fun vs H1 => False) fun xs μ1 vxs H1 g s3 r kx1 b => b)) fun us s1 z => by
          obtain ⟨vs, H1, I1, r, q⟩ := z
          exact q
      unfold PySem.callWith
      refine wpAny_bind (wpAny_holding ?_)
      rw [star_cons h2.1] at fin ⊢
      refine PySem.Calls.evalArgs_plain (E := X.xe) (thn fin fun us s1 z => z.elim)
  | some f =>
    simp only [hi] at hw
    obtain ⟨fd, hfd, M, io, nf⟩ := st.tk.init c f hi
    have F := st.fs f fd hfd
    have ex : cA T X.K c = He.ga X.K x := by
      unfold cA
      rw [List.getD_eq_getElem?_getD, hx]
      rfl
    rw [ex] at M
    have go : ∀ {s1 : Shared} {H1 : Hp} {μ1 : Mem} {ds : List D} {vs : List V} {us : List Value}, Inv X pins σ H1 s1 → Mm (mkS T X.K hid) μ1 H1 → Dats (mkS T X.K hid) μ1 H1 vs ds → Vals vs us → KQ (mkS T X.K hid) μ1 H1 Φ Q →
        KX (mkS T X.K hid) μ1 H1 Ψ (WE W σ) →
        (∀ a, μ1 a = none → call f (.ref a :: ds) (mset μ1 a (.ins c [])) (fun r μ2 => match r with
        | .non => Φ (.ref a) μ2
        | _ => False) Ψ) → wpAny (model X.prog X.w) X.A (PySem.call (.ref (He.ga X.K x)) us) (EP X pins σ Q) X.xe s1 := by
      intro s1 H1 μ1 ds vs us I1 mm r rv kq1 kx1 b
      refine runMkG M F st.gd hr tk I1 rv fun a dx na nd ne => ?_
      have na2 : upd H1 dx (.own a) a = none := by rw [upd_ne (Ne.symm ne)]; exact na
      have g1 : Grow μ1 H1 μ1 (upd H1 dx (.own a)) := Grow.new nd
      have m1 : Mm (mkS T X.K hid) μ1 (upd H1 dx (.own a)) := mm.new nd
      have g2 : Grow μ1 (upd H1 dx (.own a)) (mset μ1 a (.ins c [])) (upd (upd H1 dx (.own a)) a (.ins (He.ga X.K x) dx [])) := Grow.newM na2
      have m2 : Mm (mkS T X.K hid) (mset μ1 a (.ins c [])) (upd (upd H1 dx (.own a)) a (.ins (He.ga X.K x) dx [])) := m1.newM na2 ⟨dx, [], by rw [upd_same, mkS_cA, ex], flds_nil⟩
      have g := g1.trans g2
      refine lSp.go m2 (.cons (.ref a) (r.grow g)) (b a (mm.free na)) (fun d μ' v H' g' m' r' h' => ?_) (kx1.grow g)
      cases d <;> first
        | exact h'.elim
        | skip
      cases r'
      exact ⟨rfl, kq1 _ _ _ _ (g.trans g') m' (.ref a) h'⟩
    refine wpAny_Call_Name_kw (ld_glob I hg hm ?_ hd)
    cases es with
    | nil =>
      refine PySem.W.callWith_K0 I.kIn M.kp ?_
      exact go I s2.mm .nil .nil kq kx (h0 rfl ρ μ _ Ψ hw)
    | cons e es =>
      have h2 := Bool.and_eq_true_iff.mp (show (noStar e && es.all noStar) = true from hs)
      refine PySem.W.callWith_K (h₀ := X.base) I.ok.mod.kin M.kp (thn (pa.run pos pins s σ H _ I (lA.bind s2 hw kx (R := fun vs H1 => ∃ ds μ1, Mm (mkS T X.K hid) μ1 H1 ∧ Dats (mkS T X.K hid) μ1 H1 vs ds ∧ KQ (mkS T X.K hid) μ1 H1 Φ Q ∧
          KX (mkS T X.K hid) μ1 H1 Ψ (WE W σ) ∧ ∀ a, μ1 a = none → call f (.ref a :: ds) (mset μ1 a (.ins c [])) (fun r μ2 => match r with
        | .non => Φ (.ref a) μ2
        | _ => False) Ψ) fun xs μ1 vxs H1 g s3 r kx1 b => ⟨xs, μ1, s3.mm, r, kq.grow g, kx1, b⟩)) fun us s1 z => ?_) (star_cons h2.1) (star_any h2.2)
      obtain ⟨vs, H1, I1, r, ds, μ1, mm, rd, kq1, kx1, b⟩ := z
      exact ⟨I1.kIn, go I1 mm rd r kq1 kx1 b⟩
/-- o.f -/
theorem pe_attrW {f : Nat} {o : Expr} {pos : Pos} {wo : AE} (st : Site T call k N sc cs cm Pn X) (hf : f < T.flds.length) (hb : noSup o = true) (po : PE X o (lE (mkS T X.K hid) Pn W wo)) :
    PE X (.Attribute o (fN T f) pos) (lE (mkS T X.K hid) Pn W fun ρ μ Φ Ψ => wo ρ μ (fun x μ1 => match x with
      | .ref a => (match μ1 a with
        | some (.ins c fs) => (match T.init c, fs.lookup f with
          | some _, some d => Φ d μ1
          | _, _ => False)
        | _ => False)
      | _ => False) Ψ) := by
  refine ⟨fun pins s σ H Q I h => ?_⟩
  obtain ⟨ρ, μ, Φ, Ψ, s2, hw, kq, kx⟩ := h
  refine attr_of (base_of hb) (thn (po.run pins s σ H _ I (lE.bind s2 hw kx (R := fun vx H1 => ∃ a μ1 c fs f0 d, vx = .ref a ∧ Mm (mkS T X.K hid) μ1 H1 ∧ μ1 a = some (.ins c fs) ∧ T.init c = some f0 ∧ fs.lookup f = some d ∧ KQ (mkS T X.K hid) μ1 H1 Φ Q ∧ Φ d μ1)
    fun x μ1 vx H1 g s3 r kx1 b => by
      split at b
      · rename_i a
        split at b
        · rename_i c fs ha
          split at b
          · rename_i f0 d h1 h2
            cases r
            exact ⟨a, μ1, c, fs, f0, d, rfl, s3.mm, ha, h1, h2, kq.grow g, b⟩
          · exact b.elim
        · exact b.elim
      · exact b.elim)) fun u s1 z => ?_)
  obtain ⟨vx, H1, I1, rx, a, μ1, c, fs, f0, d, rfl, mm, ha, h1, h2, kq1, b⟩ := z
  cases rx
  obtain ⟨fd, _, _, io, nf⟩ := st.tk.init c f0 h1
  obtain ⟨dx, ws, hH, fl⟩ := mm.ok a _ ha
  obtain ⟨v, hv, dv⟩ := fl.1 f d h2
  exact getattr_ok I1 hH io.cl (nf f hf) hv fun u' s2 I2 ru => ⟨v, H1, I2, ru, kq1.now mm dv b⟩
theorem fN_inj (hn : T.flds.Nodup) {f g : Nat} (hf : f < T.flds.length) (hg : g < T.flds.length) (e : fN T f = fN T g) : f = g := by
  unfold fN at e
  rw [List.getD_eq_getElem?_getD, List.getD_eq_getElem?_getD, List.getElem?_eq_getElem hf, List.getElem?_eq_getElem hg] at e
  exact (List.getElem_inj hn).mp e
theorem setF_get (f : Nat) (d : D) : ∀ (fs : List (Nat × D)) (g : Nat), (setF f d fs).lookup g = if g = f then some d else fs.lookup g
  | [], g => by
    unfold setF
    by_cases e : g = f
    · subst e; simp
    · rw [if_neg e]
      have : (g == f) = false := by simpa using e
      simp [List.lookup, this]
  | (h, x) :: r, g => by
    unfold setF
    by_cases e : h = f
    · subst e
      rw [if_pos rfl]
      by_cases e2 : g = h
      · subst e2; simp
      · have : (g == h) = false := by simpa using e2
        rw [if_neg e2]
        simp [List.lookup, this]
    · rw [if_neg e]
      by_cases e2 : g = h
      · subst e2
        rw [if_neg e]
        simp
      · have h3 : (g == h) = false := by simpa using e2
        simp only [List.lookup, h3]
        exact setF_get f d r g
theorem setF_len (f : Nat) (d : D) : ∀ (fs : List (Nat × D)), fs.length ≤ (setF f d fs).length
  | [] => Nat.zero_le _
  | (h, x) :: r => by
    unfold setF
    by_cases e : h = f
    · rw [if_pos e]; exact Nat.le_refl _
    · rw [if_neg e]
      exact Nat.succ_le_succ (setF_len f d r)
theorem fN_in {f : Nat} (hf : f < T.flds.length) : fN T f ∈ T.flds := by
  unfold fN
  rw [List.getD_eq_getElem?_getD, List.getElem?_eq_getElem hf]
  exact List.getElem_mem hf
theorem fN_inj' (tk : TOk T X.K X.mg X.w) {f g : Nat} (hf : f < T.flds.length) (e : fN T g = fN T f) : g = f := by
  by_cases hg : g < T.flds.length
  · exact fN_inj tk.fnd hg hf e
  · have : fN T g = "" := by
      unfold fN
      rw [List.getD_eq_getElem?_getD, List.getElem?_eq_none (Nat.le_of_not_lt hg)]
      rfl
    exact absurd (e.symm.trans this) (tk.fne _ (fN_in hf))
theorem putF_len (nm : Str) (v : V) : ∀ ws : List (Str × V), (putF nm v ws).length = if (ws.lookup nm).isSome = true then ws.length else ws.length + 1
  | [] => by simp [putF]
  | (k, x) :: r => by
    unfold putF
    by_cases e : k = nm
    · subst e
      simp
    · rw [if_neg e]
      have h3 : (nm == k) = false := by simpa using fun z => e z.symm
      have ih := putF_len nm v r
      simp only [List.length_cons, List.lookup, h3, ih]
      split <;> rfl
theorem setF_len' (f : Nat) (d : D) : ∀ fs : List (Nat × D), (setF f d fs).length = if (fs.lookup f).isSome = true then fs.length else fs.length + 1
  | [] => by simp [setF]
  | (k, x) :: r => by
    unfold setF
    by_cases e : k = f
    · subst e
      simp
    · rw [if_neg e]
      have h3 : (f == k) = false := by simpa using fun z => e z.symm
      have ih := setF_len' f d r
      simp only [List.length_cons, List.lookup, h3, ih]
      split <;> rfl
theorem Flds.put (tk : TOk T X.K X.mg X.w) {f : Nat} (hf : f < T.flds.length) {ws : List (Str × V)} {fs : List (Nat × D)} {v : V} {d : D} (h : Flds (mkS T X.K hid) μ H ws fs) (r : Dat (mkS T X.K hid) μ H v d) :
    Flds (mkS T X.K hid) μ H (putF (fN T f) v ws) (setF f d fs) := by
  refine ⟨fun g e q => ?_, fun nm u q => ?_, ?_⟩
  · rw [setF_get] at q
    by_cases eg : g = f
    · rw [if_pos eg] at q
      cases q
      exact ⟨v, by rw [mkS_fN, lookup_putF, if_pos (by rw [eg])], r⟩
    · rw [if_neg eg] at q
      obtain ⟨u, h1, h2⟩ := h.1 g e q
      exact ⟨u, by rw [mkS_fN, lookup_putF, if_neg fun z => eg (fN_inj' tk hf z)]; exact h1, h2⟩
  · rw [lookup_putF] at q
    by_cases en : nm = fN T f
    · exact ⟨f, en, by rw [setF_get, if_pos rfl]; rfl⟩
    · rw [if_neg en] at q
      obtain ⟨g, h1, h2⟩ := h.2.1 nm u q
      refine ⟨g, h1, ?_⟩
      rw [setF_get]
      split
      · rfl
      · exact h2
  · rw [putF_len, setF_len']
    have hl := h.2.2
    cases e : fs.lookup f with
    | some d0 =>
      obtain ⟨u, h1, _⟩ := h.1 f d0 e
      have h1' : ws.lookup (fN T f) = some u := h1
      rw [h1']
      exact hl
    | none =>
      have h1 : ws.lookup (fN T f) = none := by
        cases q : ws.lookup (fN T f) with
        | none => rfl
        | some u =>
          obtain ⟨g, h1, h2⟩ := h.2.1 _ u q
          have eg := fN_inj' tk hf h1.symm
          rw [eg, e] at h2
          cases h2
      rw [h1]
      exact Nat.succ_le_succ hl
/-- a target by values; what it leaves of the slots -/
def lH (S : Sg) (Pn : PX) (ow : List Nat) (w : ATg) : TG := fun v σ H Q => ∃ ρ μ d Nx, St2 S Pn ρ σ μ H ∧ Dat S μ H v d ∧ w d ρ μ Nx ∧ ∀ ρ' μ' σ' H', Grow μ H μ' H' → St2 S Pn ρ' σ' μ' H' → SlB ow σ σ' → Nx ρ' μ' → Q σ' H'
theorem kx_no {S : Sg} {μ : Mem} {H : Hp} {E : XK} : KX S μ H noX E := fun _ _ _ _ _ _ _ _ _ z => z.elim
theorem pg_attW {f : Nat} {o : Expr} {pos : Pos} {wo : AE} (st : Site T call k N sc cs cm Pn X) (hf : f < T.flds.length) (po : PE X o (lE (mkS T X.K hid) Pn W wo)) :
    PG X (.Attribute o (fN T f) pos) (lH (mkS T X.K hid) Pn [] fun d ρ μ Nx => wo ρ μ (fun x μ1 => match x with
      | .ref a => (match μ1 a with
        | some (.ins c fs) => (match T.init c with
          | some _ => fs.length < 900 ∧ f < T.flds.length ∧ Nx ρ (mset μ1 a (.ins c (setF f d fs)))
          | none => False)
        | _ => False)
      | _ => False) noX) := by
  refine ⟨fun pins s σ H v u Q I rv h => ?_⟩
  obtain ⟨ρ, μ, d, Nx, s2, dv, hw, kn⟩ := h
  show wpAny _ _ (do
    let ov ← holding [u] (eval o X.env)
    standAt pos.atName
    holding [u, ov] (setAttr ov (fN T f) u)
    release [u, ov] []) _ _ s
  refine wpAny_bind (wpAny_holding (thn (po.run pins s σ H _ I (lE.bind (R := fun vx H1 => ∃ a μ1 c fs f0, vx = .ref a ∧ Grow μ H μ1 H1 ∧ St2 (mkS T X.K hid) Pn ρ σ μ1 H1 ∧ μ1 a = some (.ins c fs) ∧ T.init c = some f0 ∧ fs.length < 900 ∧ Nx ρ (mset μ1 a (.ins c (setF f d fs)))) s2 hw kx_no
    fun x μ1 vx H1 g s3 r _ b => by
      split at b
      · rename_i a
        split at b
        · rename_i c fs ha
          split at b
          · rename_i f0 h1
            cases r
            exact ⟨a, μ1, c, fs, f0, rfl, g, s3, ha, h1, b.1, b.2.2⟩
          · exact b.elim
        · exact b.elim
      · exact b.elim)) fun ov s1 z => ?_))
  obtain ⟨vx, H1, I1, rx, a, μ1, c, fs, f0, rfl, g, s3, ha, hi, hl, nx⟩ := z
  cases rx
  obtain ⟨fd, _, _, io, nf⟩ := st.tk.init c f0 hi
  obtain ⟨dx, ws, hH, fl⟩ := s3.mm.ok a _ ha
  have dv1 := dv.grow g
  refine wpAny_bind (wpAny_standAt (wpAny_bind (wpAny_holding (setattr_ok I1 hH io.cl (nf f hf) (by have := fl.2.2; omega) rv fun s3' I3 => wpAny_release ⟨σ, _, I3, ?_⟩))))
  have gw : Grow μ1 H1 (mset μ1 a (.ins c (setF f d fs))) (upd H1 a (.ins ((mkS T X.K hid).cA c) dx (putF (fN T f) v ws))) := Grow.write ha
  have m2 := s3.mm.write (o := .ins ((mkS T X.K hid).cA c) dx (putF (fN T f) v ws)) (mo' := .ins c (setF f d fs)) ha ⟨dx, putF (fN T f) v ws, upd_same, (fl.grow gw).put st.tk hf (dv1.grow gw)⟩
  exact kn ρ _ σ _ (g.trans gw) (s3.grow gw m2) (SlB.refl _ _) nx
end
end Fk
end
section
set_option maxHeartbeats 4000000
/-! len and == of instances, isinstance, held exceptions, tables of the module. -/
namespace Fk
open PySem PySem.Spec PyProof.Rows L2

section
variable {prog : Program} {w : World} {A : Around} {E : Value → Shared → Prop} {s : Shared} {K : PySem.W.Frag} {x C f : Addr} {ox : Obj} {od : Option Obj}
theorem isFn_type (hf : PySem.W.isFn K (.ref f) = true) : PySem.W.typeIn K (.ref f) = some (.type "function") := beq_iff_eq.mp hf
/-- len(x), by the class's own __len__ -/
theorem len_own {Q : Value → Shared → Prop} (X : K.In s.heap) (I : PySem.W.InstAt s.heap x ox C od) (hs : PySem.W.findIn K (.ref C) "__len__" = some (some (.ref f))) (hf : PySem.W.isFn K (.ref f) = true)
    (h : wpAny (model prog w) A.in1 (call (.ref f) [.ref x]) (fun v s' => ∃ (n : Nat) (t : Tok), v = .int n t ∧ (n : Int) < 2 ^ 63 ∧ Q (.int n s'.toks) { s' with toks := s'.toks + 1 }) E s) : wpAny (model prog w) A (call (.builtin "len") [.ref x]) Q E s := by
  refine Calls.call_function_entry PySem.kind_len PySem.plain_len PySem.entry_len (PySem.args_len1 _) ?_
  unfold Builtin.«len»
  refine wpAny_bind (m := oneArg "len" _) (wpAny_pure ?_)
  refine wpAny_bind (m := callSpecial? (.ref x) (PySem.Str.ofString "__len__")) (PySem.W.special_fn X I hs (isFn_type hf) (wpAny_mono h (fun v s' z => ?_) fun _ _ z => z))
  obtain ⟨n, t, rfl, hn, q⟩ := z
  refine wpAny_bind (wpAny_holding (wpAny_pure ?_))
  refine wpAny_bind (wpAny_letGo ?_)
  show wpAny _ _ (if ((n : Nat) : Int) < 0 then _ else _) _ _ _
  rw [if_neg (by omega)]
  show wpAny _ _ (if ((n : Nat) : Int) ≥ 2 ^ 63 then _ else _) _ _ _
  rw [if_neg (by omega)]
  exact wpAny_bind (wpAny_mkInt (wpAny_pure ⟨_, rfl, q⟩))
end
end Fk
namespace Fk
open PySem PySem.Spec PyProof.Rows L2
section
variable {prog : Program} {w : World} {A : Around} {E : Value → Shared → Prop} {s : Shared} {K : PySem.W.Frag} {x C f : Addr} {ox : Obj} {od : Option Obj} {b tb : Value}
/-- a built-in slot of an instance, by its name, where it is bound -/
theorem ifBound_slot {M : Model} {name : Str} {id : String} {args : List Value} {Q : Option Value → Shared → Prop} (X : K.In s.heap) (I : PySem.W.InstAt s.heap x ox C od) (hs : PySem.W.findIn K (.ref C) name = some (some (.builtin id)))
    (hb : bindSpecial (.builtin id) (.ref x) = pure (.builtin id, [.ref x])) (h : wpAny M A (call (.builtin id) (.ref x :: args)) (fun v => Q (some v)) E s) : wpAny M A (callSpecialIfBound? (.ref x) name args) Q E s := by
  simp only [callSpecialIfBound?, bindSpecialIfBound?, hb]
  refine wpAny_holding (wpAny_bind (wpAny_bind (wpAny_bind (I.type.here ((PySem.W.looks_findIn X hs).here ?_)))))
  simp only [hb]
  refine wpAny_bind (wpAny_askSetting (wpAny_ite ?_))
  have fin : wpAny M A (call (.builtin id) ([.ref x] ++ args) >>= fun v => pure (some v)) Q E s := wpAny_bind (wpAny_mono h (fun v s' h' => wpAny_pure h') fun _ _ h' => h')
  split
  · exact wpAny_bind (wpAny_pure (wpAny_pure (by exact fin)))
  · exact wpAny_tryCatch (wpAny_bind (wpAny_pure (wpAny_pure (by exact fin))))
/-- x != b, by the class's own == and object's != -/
theorem ne_K {Q : Value → Shared → Prop} (hu : A.units + 1 < cLine) (X : K.In s.heap) (I : PySem.W.InstAt s.heap x ox C od) (hb : PySem.W.Looks (model prog w) s.heap (typeOf b) tb) (hn : PySem.W.notFirst K C tb = true)
    (hs : PySem.W.findIn K (.ref C) "__eq__" = some (some (.ref f))) (hf : PySem.W.isFn K (.ref f) = true) (hne : PySem.W.findIn K (.ref C) "__ne__" = some (some (.builtin "object.__ne__"))) (hob : PySem.W.mroIn K C (.type "object") = some true)
    (h : wpAny (model prog w) A.in1 (call (.ref f) [.ref x, b]) (fun v s' => ∃ r, v = .bool r ∧ Q (.bool (!r)) s') E s) : wpAny (model prog w) A (richCompare .NotEq (.ref x) b) Q E s := by
  have sub : PySem.W.Looks (model prog w) s.heap (isInstance (.ref x) (.type "object")) true := I.type.andThen (PySem.W.looks_mroIn X hob)
  have body : wpAny (model prog w) A.in1 (Builtin.«object.__ne__» ⟨[.ref x, b], []⟩) (fun fin s' => ∃ v, fin = .done (.ret v) ∧ (v ≠ .notImplemented ∧ Q v s')) E s := by
    unfold Builtin.«object.__ne__»
    have go : wpAny (model prog w) A.in1 (callSpecialIfBound? (.ref x) (Str.ofString "__eq__") [b]) (fun r s' => ∃ z, r = some (.bool z) ∧ Q (.bool (!z)) s') E s :=
      PySem.W.ifBound_K X I hs hf (wpAny_mono h (fun v s' hv => by
        obtain ⟨r, rfl, hq⟩ := hv
        exact ⟨r, rfl, hq⟩) fun _ _ e => e)
    refine wpAny_bind (m := slotArgs "__ne__" 1 _) (wpAny_pure ?_)
    refine wpAny_bind (wpAny_cRoomFor (by show A.units + 1 < cLine; exact hu) (wpAny_bind (wpAny_mono go (fun r s' hr => ?_) fun _ _ e => e)))
    obtain ⟨z, rfl, hq⟩ := hr
    exact wpAny_bind (wpAny_truthy_bool (wpAny_pure ⟨_, rfl, (fun y => nomatch y), hq⟩))
  have one : wpAny (model prog w) A (tryCompare (.ref x) (cmpInfo .NotEq).2.1 b) (fun r s' => ∃ v, r = some v ∧ Q v s') E s := by
    unfold tryCompare
    refine wpAny_bind (ifBound_slot X I hne (F.cmp_object.ne.bind _) (wpAny_call (codeAny_call_builtin F.cmp_object.ne.plain F.cmpEntry_ne
      (PySem.W.check_slot F.cmpKind_ne F.cmpSplit_ne sub (F.cmpArgs_ne _ _) (wpAny_mono body (fun fin s' z => ?_) fun _ _ e => e)))))
    obtain ⟨v, rfl, hv, hq⟩ := z
    show wpAny _ _ _ _ _ _
    cases v <;> first
      | exact absurd rfl hv
      | exact wpAny_pure ⟨_, rfl, hq⟩
  unfold richCompare
  simp only [oneThing_ref]
  refine wpAny_holding (wpAny_bind (wpAny_cRoomFor (Nat.lt_of_succ_lt hu) ?_))
  refine wpAny_bind (I.type.here (wpAny_bind (hb.here ?_)))
  split
  · rename_i q
    have e : PySem.W.subIn K tb (.ref C) = some false := by
      rcases Bool.or_eq_true_iff.mp hn with e | e
      · rw [beq_iff_eq.mp e] at q; simp at q
      · exact beq_iff_eq.mp e
    refine wpAny_bind ((PySem.W.looks_subIn X e).here ?_)
    simp only [Bool.false_eq_true, if_false]
    refine wpAny_bind (wpAny_mono one (fun r s' z => ?_) fun _ _ e => e)
    obtain ⟨v, rfl, hq⟩ := z
    exact wpAny_pure hq
  · refine wpAny_bind (wpAny_pure ?_)
    simp only [Bool.false_eq_true, if_false]
    refine wpAny_bind (wpAny_mono one (fun r s' z => ?_) fun _ _ e => e)
    obtain ⟨v, rfl, hq⟩ := z
    exact wpAny_pure hq
end
end Fk
namespace Fk
open PySem PySem.Spec PyProof.Rows L2
section
variable {T : Tbl} {call : ACall} {k : Nat} {N : List Str} {sc cs : Scope} {X : Cx} {hid : Addr → Prop} {W : WX} {μ : Mem} {H : Hp} {cm : Bool} {Pn : PX}
theorem tyX_of {S : Sg} (hK : S.K = X.K) {d : D} {v : V} {n : String} (mm : Mm S μ H) (r : Dat S μ H v d) (h : tyD μ d = some n) : TyX X.K H v (.type n) := by
  cases r with
  | non => cases h; exact .base .non
  | bl b => cases h; exact .base (.bl b)
  | int i => cases h; exact .base (.int i)
  | str x => cases h; exact .base (.str x)
  | ty n => cases h
  | tup hh r =>
    cases h
    rcases hh with ⟨_, _, hh | ⟨o, hh⟩⟩ | ⟨o, its, n, hh, hc, _⟩
    · exact .base (.tup hh)
    · exact .fTuple hh
    · exact .kTuple (by rw [← hK]; exact hh) hc
  | list m n hh r => cases h; exact .base (.lst hh)
  | ro hh r =>
    cases h
    rcases hh with ⟨_, _, hh | ⟨o, hh⟩⟩ | ⟨o, its, n, hh, hc, _⟩
    · exact .base (.lst hh)
    · exact .base (.frz hh)
    · exact .kList (by rw [← hK]; exact hh) hc
  | dict m n hh e e2 r => cases h; exact .base (.dK hh)
  | ref a =>
    unfold tyD at h
    simp only at h
    split at h
    · rename_i ds ha
      cases h
      obtain ⟨vs, hh, _⟩ := mm.ok a _ ha
      exact .base (.lst hh)
    · rename_i ks ds ha
      cases h
      obtain ⟨kvs, vs, hh, _⟩ := mm.ok a _ ha
      exact .base (.dK hh)
    · cases h
theorem tyD_kind {d : D} {n : String} (h : tyD μ d = some n) : n ∈ kinds := by
  unfold tyD at h
  split at h <;> first
    | (cases h; decide)
    | (cases h; done)
    | (split at h <;> first
        | (cases h; decide)
        | cases h)
theorem tyX_ins {c : Nat} {a : Addr} {fs : List (Nat × D)} (mm : Mm (mkS T X.K hid) μ H) (io : InsOk X.K (cA T X.K c)) (ha : μ a = some (.ins c fs)) : TyX X.K H (.ref a) (.ref (cA T X.K c)) := by
  obtain ⟨dx, ws, hh, _⟩ := mm.ok a _ ha
  exact .base (.ins hh io.cl io.ha io.hn io.ht io.hm)
/-- the type by which a value is asked -/
def tyU (T : Tbl) (K : PySem.W.Frag) (μ : Mem) (d : D) : Option Value := match tyD μ d with
  | some n => some (.type n)
  | none => match d with
    | .ref a => (match μ a with
      | some (.ins c _) => some (.ref (cA T K c))
      | _ => none)
    | _ => none
theorem isiS_kit (tk : TOk T X.K X.mg X.w) {d : D} {v : V} {i : IC} {b : Bool} (mm : Mm (mkS T X.K hid) μ H) (r : Dat (mkS T X.K hid) μ H v d) (hc : ∀ c, i = .own c → c < T.cls.length) (h : isiS T μ d i = some b) :
    ∃ t, tyU T X.K μ d = some t ∧ TyX X.K H v t ∧ PySem.W.kitOne X.K t (icU T X.K i) = some b := by
  unfold isiS at h
  unfold tyU
  split at h
  · rename_i t ht
    try rw [ht]
    refine ⟨.type t, rfl, tyX_of rfl mm r ht, ?_⟩
    cases i with
    | ty n => exact kit_ty h
    | own c =>
      cases h
      exact tk.kown c (hc c rfl) t (tyD_kind ht)
  · rename_i ht
    try rw [ht]
    cases d with
    | ref a =>
      simp only at h
      split at h
      · rename_i k0 fs ha
        obtain ⟨io, e⟩ := tk.isI k0 i b h
        cases r
        simp only [ha]
        exact ⟨_, rfl, tyX_ins mm io ha, e⟩
      · cases h
    | _ => cases h
theorem isiA_kit (tk : TOk T X.K X.mg X.w) {d : D} {v : V} (mm : Mm (mkS T X.K hid) μ H) (r : Dat (mkS T X.K hid) μ H v d) : ∀ {ts : List IC} {b : Bool}, ts ≠ [] → (∀ c, IC.own c ∈ ts → c < T.cls.length) → isiA T μ d ts = some b →
    ∃ t, tyU T X.K μ d = some t ∧ TyX X.K H v t ∧ PySem.W.kitAny X.K t (ts.map (icU T X.K)) = some b
  | [], _, hn, _, _ => absurd rfl hn
  | i :: ts, b, _, hc, h => by
    unfold isiA at h
    have hc1 : ∀ c, i = .own c → c < T.cls.length := fun c e => hc c (by rw [e]; exact List.mem_cons_self)
    split at h
    · rename_i h1
      cases h
      obtain ⟨t, e1, e2, e3⟩ := isiS_kit tk mm r hc1 h1
      refine ⟨t, e1, e2, ?_⟩
      show (match PySem.W.kitOne X.K t (icU T X.K i) with
        | some true => some true
        | some false => PySem.W.kitAny X.K t (ts.map (icU T X.K))
        | none => none) = some true
      rw [e3]
    · rename_i h1
      obtain ⟨t, e1, e2, e3⟩ := isiS_kit tk mm r hc1 h1
      refine ⟨t, e1, e2, ?_⟩
      show (match PySem.W.kitOne X.K t (icU T X.K i) with
        | some true => some true
        | some false => PySem.W.kitAny X.K t (ts.map (icU T X.K))
        | none => none) = some b
      rw [e3]
      cases ts with
      | nil => exact h
      | cons j ts =>
        obtain ⟨t', q1, q2, q3⟩ := isiA_kit tk mm r (by simp) (fun c e => hc c (List.mem_cons_of_mem _ e)) h
        rw [e1] at q1
        cases q1
        exact q3
    · cases h
end
end Fk
end
section
set_option maxHeartbeats 4000000
/-! isinstance, len, ==, held exceptions' fields, the module's tables: as expressions. -/
namespace Fk
open PySem PySem.Spec PyProof.Rows L2
section
variable {T : Tbl} {call : ACall} {k : Nat} {N : List Str} {sc cs : Scope} {X : Cx} {hid : Addr → Prop} {W : WX} {μ : Mem} {H : Hp} {cm : Bool} {Pn : PX}
/-- a class's name -/
structure IcAt (T : Tbl) (X : Cx) (i : IC) (x : Str) : Prop where
  gl : Gl X x
  db : (x == ("__debug__" : Str)) = false
  at_ : match i with
    | .ty n => X.mg x = none ∧ bootBuiltins x = some (.type n) ∧ x ≠ "__name__"
    | .own c => T.cls[c]? = some x
theorem ga_of {c : Nat} {x : Str} {K : PySem.W.Frag} (h : T.cls[c]? = some x) : cA T K c = He.ga K x := by
  unfold cA
  rw [List.getD_eq_getElem?_getD, h]
  rfl
theorem pe_ic {i : IC} {x : Str} {p : Pos} (tk : TOk T X.K X.mg X.w) (h : IcAt T X i x) : PE X (.Name x p) (tC (icV T X.K i)) := by
  obtain ⟨g, db, a⟩ := h
  cases i with
  | ty n => exact pe_bltn g a.1 a.2.1 rfl a.2.2 db
  | own c =>
    have e := tk.cglo c x a
    show PE X _ (tC (.ref (cA T X.K c)))
    rw [ga_of a]
    exact pe_glob g e rfl db
/-- names of classes, one after another -/
inductive IcsAt (T : Tbl) (X : Cx) : List IC → List Expr → Prop where
  | nil : IcsAt T X [] []
  | cons {i : IC} {x : Str} {p : Pos} {is : List IC} {es : List Expr} (h : IcAt T X i x) (t : IcsAt T X is es) : IcsAt T X (i :: is) (.Name x p :: es)
theorem pa_ics (tk : TOk T X.K X.mg X.w) : ∀ {is : List IC} {es : List Expr}, IcsAt T X is es → PA X es (fun _ H Q => Q (is.map (icV T X.K)) H)
  | _, _, .nil => pa_nil
  | _, _, .cons (i := i) h t => ⟨fun pos pins s σ H Q I q => (pa_cons (pe_ic tk h) (pa_ics tk t) (star_cons rfl)).run pos pins s σ H Q I q⟩
theorem ics_paired : ∀ is : List IC, Paired ClsV (is.map (icV T X.K)) (is.map (icU T X.K))
  | [] => .nil
  | i :: is => .cons (icCls T X.K i) (ics_paired is)
theorem IcsAt.own : ∀ {is : List IC} {es : List Expr}, IcsAt T X is es → ∀ c, IC.own c ∈ is → c < T.cls.length
  | _, _, .nil, c, h => by cases h
  | _, _, .cons (i := i) (x := x) h t, c, hc => by
    rcases List.mem_cons.mp hc with e | e
    · subst e
      exact (List.getElem?_eq_some_iff.mp h.at_).1
    · exact t.own c e
/-- what isinstance asks for: a class, a tuple of classes -/
inductive IcArg (T : Tbl) (X : Cx) : Bool → List IC → Expr → Prop where
  | one {i : IC} {x : Str} {p : Pos} (h : IcAt T X i x) : IcArg T X false [i] (.Name x p)
  | tup {is : List IC} {es : List Expr} {n : Nat} {p : Pos} (h : IcsAt T X is es) (h0 : is ≠ []) : IcArg T X true is (.Tuple es n p)
theorem IcArg.ne {tp : Bool} {is : List IC} {e : Expr} (h : IcArg T X tp is e) : is ≠ [] := by
  cases h with
  | one h => simp
  | tup h h0 => exact h0
theorem IcArg.own {tp : Bool} {is : List IC} {e : Expr} (h : IcArg T X tp is e) : ∀ c, IC.own c ∈ is → c < T.cls.length := by
  cases h with
  | @one i x p h =>
    intro c hc
    have e : i = .own c := (List.mem_singleton.mp hc).symm
    subst e
    exact (List.getElem?_eq_some_iff.mp h.at_).1
  | tup h h0 => exact h.own
/-- the second argument read, then isinstance -/
theorem icarg_run {tp : Bool} {is : List IC} {e : Expr} {b : Bool} {t : Value} {u : Value} {v : V} {pins : List (Addr × Obj)} {σ : L2.St} {s : Shared} {Q : VK} {P : Heap → Prop} (tk : TOk T X.K X.mg X.w) (h : IcArg T X tp is e) (I : Inv X pins σ H s)
    (hz : sizeLine > is.length)
    (ans : ∀ {s1 : Shared} {H1 : Hp} {c : Value}, Inv X pins σ H1 s1 → (∀ a o, H a = some o → H1 a = some o) →
      ((∃ i, is = [i] ∧ c = icU T X.K i) ∨ (∃ (tp : Addr) (dd : Option Addr) (n : Nat) (sl : Array (Option Value)), c = .ref tp ∧ s1.heap.get? tp = some ⟨.type "tuple", dd, .seq (is.map (icU T X.K)).toArray n, sl⟩)) →
      Q (.bl b) H1 → wpAny (model X.prog X.w) X.A (PySem.call (.builtin "isinstance") [u, c]) (EP X pins σ Q) X.xe s1)
    (q : Q (.bl b) H) (q2 : ∀ p, H p = none → Q (.bl b) (upd H p (.tup (is.map (icV T X.K))))) :
    wpAny (model X.prog X.w) X.A (eval e X.env) (fun c s1 => wpAny (model X.prog X.w) X.A (PySem.call (.builtin "isinstance") [u, c]) (EP X pins σ Q) X.xe s1) X.xe s := by
  cases h with
  | @one i x p h =>
    refine thn ((pe_ic tk h).run pins s σ H (fun v1 H1 => v1 = icV T X.K i ∧ H1 = H) I ⟨rfl, rfl⟩) fun c s1 z => ?_
    obtain ⟨v1, H1, I1, r1, e1, e2⟩ := z
    subst e1 e2
    exact ans I1 (fun _ _ z => z) (.inl ⟨i, rfl, (icCls T X.K i).eq r1⟩) q
  | @tup is es n p h h0 =>
    have pt := pe_tup (x1 := n) (pos := p) (pa_ics tk h)
    refine thn (pt.run pins s σ H (fun v1 H1 => ∃ p, v1 = .ref p ∧ H p = none ∧ H1 = upd H p (.tup (is.map (icV T X.K)))) I ⟨by rw [List.length_map]; omega, fun p hp => ⟨p, rfl, hp, rfl⟩⟩) fun c s1 z => ?_
    obtain ⟨v1, H1, I1, r1, p, e1, hp, e2⟩ := z
    subst e1 e2
    cases r1
    obtain ⟨_, its, rv, o, h1, h2, n1, h3⟩ := (show ObjOk X.prog X.w _ s1.heap p (.tup (is.map (icV T X.K))) from I1.hok p _ upd_same)
    have e3 := ClsV.all (ics_paired (T := T) (X := X) is) rv
    subst e3
    obtain ⟨oc, od, dt, sl⟩ := o
    simp only at h2 h3
    subst h2 h3
    exact ans I1 (fun a o z => by rw [upd_ne (ne_of_none z hp)]; exact z) (.inr ⟨p, od, n1, sl, rfl, h1⟩) (q2 p hp)
/-- two arguments -/
theorem args2 {a b : Expr} {pos : Pos} {pins : List (Addr × Obj)} {σ : L2.St} {s : Shared} {Q : List Value → Shared → Prop} {E : Value → Shared → Prop} (ha : noStar a = true) (hb : noStar b = true)
    (h : wpAny (model X.prog X.w) X.A (eval a X.env) (fun u s1 => wpAny (model X.prog X.w) X.A (eval b X.env) (fun v s2 => Q [u, v] s2) E s1) E s) :
    wpAny (model X.prog X.w) X.A (spliced (backTo pos (starEach [a, b] X.env))) Q E s := by
  rw [star_cons ha, star_cons hb]
  show wpAny _ _ (spliced [(false, eval a X.env), (false, eval b X.env)]) _ _ s
  exact Calls.spliced_cons (thn h fun u s1 z => Calls.spliced_cons (thn z fun v s2 z => Calls.spliced_nil z))
theorem isi_pre {ea ec : Expr} {p pos : Pos} {pins : List (Addr × Obj)} {σ : L2.St} {H : Hp} {s : Shared} {Q : VK} (tk : TOk T X.K X.mg X.w) (I : Inv X pins σ H s) (hg : Gl X "isinstance") (ha : noStar ea = true) (hb : noStar ec = true)
    (h : wpAny (model X.prog X.w) X.A (eval ea X.env) (fun u s1 => wpAny (model X.prog X.w) X.A (eval ec X.env) (fun c s2 => wpAny (model X.prog X.w) X.A (PySem.call (.builtin "isinstance") [u, c]) (EP X pins σ Q) X.xe s2) X.xe s1) X.xe s) :
    wpAny (model X.prog X.w) X.A (eval (.Call (.Name "isinstance" p) [ea, ec] [] pos) X.env) (EP X pins σ Q) X.xe s := by
  refine wpAny_Call_Name_kw (ld_blt I hg (tk.free _ (by simp [freeNames])) boot_isinstance ?_ (by decide) (by decide))
  refine PyProof.Rows.callWith_builtin1 (args2 (pos := pos) (pins := pins) (σ := σ) ha hb (thn h fun u s1 z => thn z fun c s2 z => z)) (star_cons ha) (star_any (by simp [hb]))
/-- isinstance(x, ..) -/
theorem pe_isiW {ea ec : Expr} {p pos : Pos} {tp : Bool} {is : List IC} {wa : AE} (st : Site T call k N sc cs cm Pn X) (hg : Gl X "isinstance") (ha : noStar ea = true) (hb : noStar ec = true) (hz : is.length < sizeLine) (ic : IcArg T X tp is ec) (pa : PE X ea (lE (mkS T X.K hid) Pn W wa)) :
    PE X (.Call (.Name "isinstance" p) [ea, ec] [] pos) (lE (mkS T X.K hid) Pn W fun ρ μ Φ Ψ => wa ρ μ (fun x μ1 => match isiA T μ1 x is with
      | some b => Φ (.bl b) μ1
      | none => False) Ψ) := by
  refine ⟨fun pins s σ H Q I h => ?_⟩
  obtain ⟨ρ, μ, Φ, Ψ, s2, hw, kq, kx⟩ := h
  refine isi_pre st.tk I hg ha hb (thn (pa.run pins s σ H _ I (lE.bind (R := fun vx H1 => ∃ x μ1 b, Mm (mkS T X.K hid) μ1 H1 ∧ Dat (mkS T X.K hid) μ1 H1 vx x ∧ isiA T μ1 x is = some b ∧ KQ (mkS T X.K hid) μ1 H1 Φ Q ∧ Φ (.bl b) μ1) s2 hw kx fun x μ1 vx H1 g s3 r kx1 b => by
    split at b
    · rename_i b0 hb0
      exact ⟨x, μ1, b0, s3.mm, r, hb0, kq.grow g, b⟩
    · exact b.elim)) fun u s1 z => ?_)
  obtain ⟨vx, H1, I1, ru, x, μ1, b, mm, r, hb0, kq1, q⟩ := z
  obtain ⟨t, _, ty, kit⟩ := isiA_kit st.tk mm r ic.ne ic.own hb0
  refine icarg_run (P := fun _ => True) (t := t) (v := vx) st.tk ic I1 hz (fun {s3 H3 c} I3 hx hc hq => ?_) (kq1.now mm (.bl b) q) (fun p hp => kq1 _ _ _ _ (Grow.new hp) (mm.new hp) (.bl b) q)
  have ty3 : TyX X.K H3 vx t := by
    cases ty with
    | base b =>
      refine .base ?_
      cases b with
      | non => exact .non
      | bl y => exact .bl y
      | int y => exact .int y
      | str y => exact .str y
      | flt y => exact .flt y
      | lst e => exact .lst (hx _ _ e)
      | frz e => exact .frz (hx _ _ e)
      | tup e => exact .tup (hx _ _ e)
      | dK e => exact .dK (hx _ _ e)
      | dT e => exact .dT (hx _ _ e)
      | ins e a b c d f => exact .ins (hx _ _ e) a b c d f
    | byt y => exact .byt y
    | set e => exact .set (hx _ _ e)
    | kList e c => exact .kList e c
    | kTuple e c => exact .kTuple e c
    | kDict e c => exact .kDict e c
    | fTuple e => exact .fTuple (hx _ _ e)
    | fDict e => exact .fDict (hx _ _ e)
  obtain ⟨P, Z, hp, hne⟩ := kit_of I3 ru ty3
  rcases hc with ⟨i, e1, e2⟩ | ⟨tp', dd, n, sl, e1, e2⟩
  · subst e1 e2
    have kit' : PySem.W.kitOne X.K t (icU T X.K i) = some b := by
      have kit2 : (match PySem.W.kitOne X.K t (icU T X.K i) with
        | some true => some true
        | some false => some false
        | none => none) = some b := kit
      cases q2 : PySem.W.kitOne X.K t (icU T X.K i) with
      | none => rw [q2] at kit2; cases kit2
      | some b2 => rw [q2] at kit2; cases b2 <;> exact kit2
    exact PySem.W.kia_one Z I3.kIn hp kit' hne fun tk => ⟨.bl b, H3, I3.tok tk, rfl, hq⟩
  · subst e1
    exact PySem.W.kia_tup Z I3.kIn hp e2 kit hne fun tk => ⟨.bl b, H3, I3.tok tk, rfl, hq⟩
end
end Fk
end
section
set_option maxHeartbeats 4000000
/-! Held exceptions, len of an instance, ==, the module's tables. -/
namespace Fk
open PySem PySem.Spec PyProof.Rows L2
section
variable {T : Tbl} {call : ACall} {k : Nat} {N : List Str} {sc cs : Scope} {X : Cx} {hid : Addr → Prop} {W : WX} {μ : Mem} {H : Hp} {cm : Bool} {Pn : PX}
theorem getX_at {ρ : Env} {i : Nat} {c : Nat} {fs : List Nat} {ds : List D} (h : getX ρ i = some (c, fs, ds)) : ρ[i]? = some (some (.exn c fs ds)) := by
  unfold getX at h
  split at h
  · rename_i c' fs' ds' e
    cases h
    exact e
  · cases h
/-- the exception that a name holds -/
theorem held {ρ : Env} {σ : L2.St} {s : Shared} {pins : List (Addr × Obj)} {i c : Nat} {fs : List Nat} {ds : List D} (st : Site T call k N sc cs cm Pn X) (s2 : St2 (mkS T X.K hid) Pn ρ σ μ H) (I : Inv X pins σ H s) (h : getX ρ i = some (c, fs, ds)) :
    ∃ a dd oe, σ[i]? = some (some (.ref a)) ∧ XD (mkS T X.K hid) μ H dd (fs.zip ds) ∧ (∀ s1 H1, Inv X pins σ H1 s1 → (∀ a o, H a = some o → H1 a = some o) → ∃ od, PySem.W.InstAt s1.heap a oe (cA T X.K c) od ∧ ∀ d0 ws, dd = some d0 → H d0 = some (.xd ws) → ∃ o1, od = some o1 ∧
      ∀ f v, ws.lookup f = some v → ∃ u, PySem.W.lookIn f o1 = some (some u) ∧ RelV v u) := by
  obtain ⟨v, h1, a, dd, rfl, hp, xd⟩ := s2.sl i _ (getX_at h)
  obtain ⟨oe, vs, hm, hz, hd⟩ := st.pn a c dd hp
  refine ⟨a, dd, oe, h1, xd, fun s1 H1 I1 hx => ?_⟩
  obtain ⟨hget, _⟩ := I1.pin (a, oe) (List.mem_append_left _ hm)
  cases dd with
  | none =>
    refine ⟨none, ⟨hget, hz.1, by unfold PySem.W.notCls; rw [hd] <;> rfl, by rw [hz.2] <;> trivial⟩, fun d0 ws e => by cases e⟩
  | some d =>
    obtain ⟨_, _, ws, e, _⟩ := xd
    have ho : ObjOk X.prog X.w H1 s1.heap d (.xd ws) := I1.hok d _ (hx _ _ e)
    obtain ⟨mA, hns, hr⟩ := ho
    obtain ⟨od, ho, hl⟩ := lookIn_ns hns
    refine ⟨some od, ⟨hget, hz.1, by unfold PySem.W.notCls; rw [hd] <;> rfl, by rw [hz.2]; exact ho⟩, fun d0 ws' q q2 => ?_⟩
    cases q
    rw [e] at q2
    cases q2
    refine ⟨od, rfl, fun f v q => ?_⟩
    obtain ⟨u, hu, ru⟩ := RelO.some_of (v := v) (o := mA f) (by rw [← q]; exact hr f)
    exact ⟨u, by rw [hl, hu], ru⟩
theorem isxA_kit (tk : TOk T X.K X.mg X.w) {c : Nat} : ∀ {ts : List IC} {b : Bool}, ts ≠ [] → isxA T c ts = some b → ExcC X.K (cA T X.K c) ∧ PySem.W.kitAny X.K (.ref (cA T X.K c)) (ts.map (icU T X.K)) = some b
  | [], _, hn, _ => absurd rfl hn
  | i :: ts, b, _, h => by
    unfold isxA at h
    split at h
    · rename_i h1
      cases h
      obtain ⟨e1, e2⟩ := tk.isX c i true h1
      refine ⟨e1, ?_⟩
      show (match PySem.W.kitOne X.K _ (icU T X.K i) with
        | some true => some true
        | some false => PySem.W.kitAny X.K _ (ts.map (icU T X.K))
        | none => none) = some true
      rw [e2]
    · rename_i h1
      obtain ⟨e1, e2⟩ := tk.isX c i false h1
      refine ⟨e1, ?_⟩
      show (match PySem.W.kitOne X.K _ (icU T X.K i) with
        | some true => some true
        | some false => PySem.W.kitAny X.K _ (ts.map (icU T X.K))
        | none => none) = some b
      rw [e2]
      cases ts with
      | nil => exact h
      | cons j ts => exact (isxA_kit tk (by simp) h).2
    · cases h
/-- isinstance(e, ..), e the exception that the suite holds -/
theorem pe_xisiW {i : Nat} {x : Str} {ec : Expr} {p p2 pos : Pos} {tp : Bool} {is : List IC} (st : Site T call k N sc cs cm Pn X) (hg : Gl X "isinstance") (hi : X.N[i]? = some x) (hv : Vis X.env.scope x) (hd : (x == ("__debug__" : Str)) = false) (hcd : (x == ("__classdict__" : Str)) = false)
    (hb : noStar ec = true) (hz : is.length < sizeLine) (ic : IcArg T X tp is ec) :
    PE X (.Call (.Name "isinstance" p) [.Name x p2, ec] [] pos) (lE (mkS T X.K hid) Pn W fun ρ μ Φ _ => match getX ρ i with
      | some (k, _, _) => (match isxA T k is with
        | some b => Φ (.bl b) μ
        | none => False)
      | none => False) := by
  refine ⟨fun pins s σ H Q I h => ?_⟩
  obtain ⟨ρ, μ, Φ, Ψ, s2, hw, kq, kx⟩ := h
  split at hw
  · rename_i c fs ds hx
    split at hw
    · rename_i b hb0
      obtain ⟨a, dd, oe, hs, xd, at_⟩ := held st s2 I hx
      obtain ⟨ek, kit⟩ := isxA_kit st.tk ic.ne hb0
      refine isi_pre st.tk I hg rfl hb (thn ((pe_var hi hv hd hcd).run pins s σ H (fun vx H1 => vx = .ref a ∧ H1 = H) I ⟨_, hs, rfl, rfl⟩) fun u s1 z => ?_)
      obtain ⟨vx, H1, I1, ru, e1, e2⟩ := z
      subst e1 e2
      cases ru
      refine icarg_run (P := fun _ => True) (t := .ref (cA T X.K c)) (v := .ref a) st.tk ic I1 hz (fun {s3 H3 c3} I3 hxx hc hq => ?_) (kq.now s2.mm (.bl b) hw) (fun p hp => kq _ _ _ _ (Grow.new hp) (s2.mm.new hp) (.bl b) hw)
      obtain ⟨od, J, _⟩ := at_ s3 H3 I3 hxx
      have Z := PySem.W.kitx_exc (x := a) (ox := oe) (od := od) (by obtain ⟨cd, hc, _⟩ := PySem.W.any_some ek.hd; rw [hc]; rfl) ek.hg ek.hk ek.hs ek.ha ek.hn ek.ht ek.hm
      rcases hc with ⟨i0, e1, e2⟩ | ⟨tp', dd', n, sl, e1, e2⟩
      · subst e1 e2
        have kit' : PySem.W.kitOne X.K (.ref (cA T X.K c)) (icU T X.K i0) = some b := by
          have kit2 : (match PySem.W.kitOne X.K (.ref (cA T X.K c)) (icU T X.K i0) with
            | some true => some true
            | some false => some false
            | none => none) = some b := kit
          cases q2 : PySem.W.kitOne X.K (.ref (cA T X.K c)) (icU T X.K i0) with
          | none => rw [q2] at kit2; cases kit2
          | some b2 => rw [q2] at kit2; cases b2 <;> exact kit2
        exact PySem.W.kia_one Z I3.kIn J kit' (fun z => nomatch z) fun tk => ⟨.bl b, H3, I3.tok tk, rfl, hq⟩
      · subst e1
        exact PySem.W.kia_tup Z I3.kIn J e2 kit (fun z => nomatch z) fun tk => ⟨.bl b, H3, I3.tok tk, rfl, hq⟩
    · exact hw.elim
  · exact hw.elim
/-- e.f, e the exception that the suite holds -/
theorem pe_xattrW {i f : Nat} {x : Str} {p pos : Pos} (st : Site T call k N sc cs cm Pn X) (hf : f < T.flds.length) (hi : X.N[i]? = some x) (hv : Vis X.env.scope x) (hd : (x == ("__debug__" : Str)) = false) (hcd : (x == ("__classdict__" : Str)) = false) :
    PE X (.Attribute (.Name x p) (fN T f) pos) (lE (mkS T X.K hid) Pn W fun ρ μ Φ _ => match getX ρ i with
      | some (c, fs, ds) => (match T.excF c with
        | some _ => (match (fs.zip ds).lookup f with
          | some d => Φ d μ
          | none => False)
        | none => False)
      | none => False) := by
  refine ⟨fun pins s σ H Q I h => ?_⟩
  obtain ⟨ρ, μ, Φ, Ψ, s2, hw, kq, kx⟩ := h
  split at hw
  · rename_i c fs ds hx
    split at hw
    · rename_i o0 ho0
      split at hw
      · rename_i d hd0
        obtain ⟨xf, _, _, nf, _⟩ := st.tk.exc c o0 ho0
        obtain ⟨a, dd, oe, hs, xd, at_⟩ := held st s2 I hx
        refine attr_of (base_of rfl) (thn ((pe_var hi hv hd hcd).run pins s σ H (fun vx H1 => vx = .ref a ∧ H1 = H) I ⟨_, hs, rfl, rfl⟩) fun u s1 z => ?_)
        obtain ⟨vx, H1, I1, ru, e1, e2⟩ := z
        subst e1 e2
        cases ru
        obtain ⟨od, J, lk⟩ := at_ s1 H1 I1 (fun _ _ z => z)
        cases dd with
        | none =>
          have xd' : fs.zip ds = [] := xd
          rw [xd'] at hd0
          cases hd0
        | some d0 =>
          obtain ⟨m1, m2, ws, e, r⟩ := xd
          obtain ⟨v, hv1, dv⟩ := r f d hd0
          obtain ⟨o1, rfl, lk2⟩ := lk d0 ws rfl e
          obtain ⟨u, hu, ru⟩ := lk2 _ _ hv1
          exact HandSPX.exc_get I1.kIn J xf.ga xf.gg xf.exC (PySem.W.findObj_own xf.hdC (nf f hf) rfl hu) (handed_of ru) ⟨v, H1, I1.tok _, ru, kq.now s2.mm dv hw⟩
      · exact hw.elim
    · exact hw.elim
  · exact hw.elim
end
end Fk
end
section
set_option maxHeartbeats 4000000
/-! Expressions by values: operators, comparisons, calls of built-ins. -/
namespace Fk
open PySem PySem.Spec PyProof.Rows L2
section
variable {T : Tbl} {call : ACall} {k : Nat} {N : List Str} {sc cs : Scope} {X : Cx} {hid : Addr → Prop} {W : WX} {μ : Mem} {H : Hp} {cm : Bool} {Pn : PX}
/-- the callee from anywhere below the body -/
theorem runGA {A : Around} {f : Addr} {sp : Sp} {pins : List (Addr × Obj)} {σ : L2.St} {s : Shared} {Q : VK} {us : List Value} {vs : List V} (F : FnB X.prog X.w X.K X.mg X.base k f sp) (hfr : A.frames = X.A.frames) (hg : A.guards = some []) (hr : Room k A)
    (tk : Takes X W) (I : Inv X pins σ H s) (r : Vals vs us) (h : sp vs H Q (WE W σ)) : wpAny (model X.prog X.w) A (PySem.call (.ref f) us) (EP X pins σ Q) X.xe s := by
  have e := I.env0
  refine wpAny_call (codeAny_mono (F.run A X.stack s H us vs Q _ hg hr ⟨by rw [hfr]; exact e.frames, e.mod, e.bs, e.bsz, e.funs, e.frf, e.hok, e.bare⟩ r h) fun re s' hq => ?_)
  cases re with
  | error e => exact passAt tk σ pins H s e s' I hq
  | ok fl =>
    cases fl with
    | ret u => exact I.after hq
    | next => exact hq.elim
    | brk => exact hq.elim
    | cont => exact hq.elim
theorem args1 {a : Expr} {pos : Pos} {s : Shared} {Q : List Value → Shared → Prop} {E : Value → Shared → Prop} (ha : noStar a = true)
    (h : wpAny (model X.prog X.w) X.A (eval a X.env) (fun u s1 => Q [u] s1) E s) :
    wpAny (model X.prog X.w) X.A (spliced (backTo pos (starEach [a] X.env))) Q E s := by
  rw [star_cons ha]
  show wpAny _ _ (spliced [(false, eval a X.env)]) _ _ s
  exact Calls.spliced_cons (thn h fun u s1 z => Calls.spliced_nil z)
/-- len(o), o an instance -/
theorem pe_lenoW {o : Expr} {p pos : Pos} {wo : AE} (st : Site T call k N sc cs true noPn X) (tk : Takes X W) (hg : Gl X "len") (hs : noStar o = true) (po : PE X o (lE (mkS T X.K hid) noPn W wo)) :
    PE X (.Call (.Name "len" p) [o] [] pos) (lE (mkS T X.K hid) noPn W fun ρ μ Φ Ψ => wo ρ μ (fun x μ1 => match x with
      | .ref a => (match μ1 a with
        | some (.ins c _) => (match T.lenF c with
          | some f => call f [x] μ1 (fun r μ2 => ∃ n : Nat, r = .int n ∧ n ≤ 16777216 ∧ Φ r μ2) Ψ
          | none => False)
        | _ => False)
      | _ => False) Ψ) := by
  refine ⟨fun pins s σ H Q I h => ?_⟩
  obtain ⟨ρ, μ, Φ, Ψ, s2, hw, kq, kx⟩ := h
  obtain ⟨hc, hr, _⟩ := st.calm rfl
  refine wpAny_Call_Name_kw (ld_blt I hg (st.tk.free _ (by simp [freeNames])) boot_len ?_ (by decide) (by decide))
  refine PyProof.Rows.callWith_builtin1 (args1 (pos := pos) hs (thn (po.run pins s σ H _ I (lE.bind (R := fun vx H1 => ∃ a μ1 c fs f, vx = .ref a ∧ Mm (mkS T X.K hid) μ1 H1 ∧ μ1 a = some (.ins c fs) ∧ T.lenF c = some f ∧ KQ (mkS T X.K hid) μ1 H1 Φ Q ∧ KX (mkS T X.K hid) μ1 H1 Ψ (WE W σ) ∧
    call f [.ref a] μ1 (fun r μ2 => ∃ n : Nat, r = .int n ∧ n ≤ 16777216 ∧ Φ r μ2) Ψ) s2 hw kx fun x μ1 vx H1 g s3 r kx1 b => by
      split at b
      · rename_i a
        split at b
        · rename_i c fs ha
          split at b
          · rename_i f hf
            cases r
            exact ⟨a, μ1, c, fs, f, rfl, s3.mm, ha, hf, kq.grow g, kx1, b⟩
          · exact b.elim
        · exact b.elim
      · exact b.elim)) fun u s1 z => ?_)) (star_cons hs) (by rfl)
  obtain ⟨vx, H1, I1, rx, a, μ1, c, fs, f, rfl, mm, ha, hf, kq1, kx1, b⟩ := z
  cases rx
  obtain ⟨fd, hfd, at_, fn⟩ := st.tk.len c f hf
  have F := st.fs f fd hfd
  obtain ⟨dx, ws, hH, fl⟩ := mm.ok a _ ha
  obtain ⟨mA, O, _⟩ := ins_get I1.hok hH
  obtain ⟨od, J, _⟩ := O.look
  refine len_own I1.kIn J at_ fn (wpAny_mono (runGA (A := X.A.in1) F rfl st.gd hr.in1 tk I1 (us := [.ref a]) (vs := [.ref a]) (.cons rfl .nil) (Q := fun v H' => ∃ n : Nat, v = .int n ∧ n ≤ 16777216 ∧ Q (.int n) H')
    (lSp.go mm (.cons (.ref a) .nil) b (fun d μ' v H' g' m' r' h' => ?_) kx1)) (fun v s' z => ?_) fun _ _ z => z)
  · obtain ⟨n, e, hn, q⟩ := h'
    subst e
    cases r'
    exact ⟨n, rfl, hn, kq1 _ _ _ _ g' m' (.int n) q⟩
  · obtain ⟨w, H', I', rw', n, e, hn, q⟩ := z
    subst e
    obtain ⟨t, rfl⟩ := rw'
    exact ⟨n, t, rfl, by omega, .int n, H', I'.tok _, ⟨_, rfl⟩, q⟩
theorem lE.bind2 {S : Sg} {ρ : Env} {σ : L2.St} {Ψ : AX} {wa wb : AE} {B : D → D → Mem → Prop} {R : V → V → Hp → Prop} (h : St2 S Pn ρ σ μ H) (hw : wa ρ μ (fun x μ1 => wb ρ μ1 (fun y μ2 => B x y μ2) Ψ) Ψ) (kx : KX S μ H Ψ (fun cls dd H' => W cls dd σ H'))
    (hk : ∀ x y μ2 vx vy H2, Grow μ H μ2 H2 → St2 S Pn ρ σ μ2 H2 → Dat S μ2 H2 vx x → Dat S μ2 H2 vy y → KX S μ2 H2 Ψ (fun cls dd H' => W cls dd σ H') → B x y μ2 → R vx vy H2) :
    lE S Pn W wa σ H (fun vx H1 => lE S Pn W wb σ H1 (fun vy H2 => R vx vy H2)) :=
  lE.bind h hw kx fun x μ1 vx H1 g s r kx1 b => lE.bind s b kx1 fun y μ2 vy H2 g2 s2 r2 kx2 b2 => hk x y μ2 vx vy H2 (g.trans g2) s2 (r.grow g2) r2 kx2 b2
/-- an operation of two values -/
theorem op2W {S : Sg} {wa wb : AE} {s : D → D → Mem → AQ → Prop} : ∀ σ H Q, lE S Pn W (fun ρ μ Φ Ψ => wa ρ μ (fun x μ1 => wb ρ μ1 (fun y μ2 => s x y μ2 Φ) Ψ) Ψ) σ H Q → tOp (l2 S s) (lE S Pn W wa) (lE S Pn W wb) σ H Q := by
  intro σ H Q h
  obtain ⟨ρ, μ, Φ, Ψ, s2, hw, kq, kx⟩ := h
  exact lE.bind2 s2 hw kx fun x y μ2 vx vy H2 g s3 rx ry kx2 b => ⟨x, y, μ2, Φ, s3.mm, rx, ry, b, kq.grow g⟩
theorem pe_binW {m : Bool} {op : Operator} {a b : Expr} {pos : Pos} {wa wb : AE} (pa : PE X a (lE (mkS T X.K hid) Pn W wa)) (pb : PE X b (lE (mkS T X.K hid) Pn W wb)) :
    PE X (.BinOp a op b pos) (lE (mkS T X.K hid) Pn W fun ρ μ Φ Ψ => wa ρ μ (fun x μ1 => wb ρ μ1 (fun y μ2 => binS m op x y μ2 Φ) Ψ) Ψ) :=
  PE.weak (pe_op (op_binS (S := mkS T X.K hid) rfl m op) pa pb) op2W
theorem pe_subW {a b : Expr} {pos : Pos} {wa wb : AE} (st : Site T call k N sc cs cm Pn X) (hs : noSlice b = true) (pa : PE X a (lE (mkS T X.K hid) Pn W wa)) (pb : PE X b (lE (mkS T X.K hid) Pn W wb)) :
    PE X (.Subscript a b pos) (lE (mkS T X.K hid) Pn W fun ρ μ Φ Ψ => wa ρ μ (fun x μ1 => wb ρ μ1 (fun y μ2 => subS x y μ2 Φ) Ψ) Ψ) :=
  PE.weak (pe_ix (ix_subS (S := mkS T X.K hid) rfl (by have := st.un; omega)) pa pb (plainIx_of hs)) op2W
/-- u's type, looked up -/
theorem eqOk_ty (tk : TOk T X.K X.mg X.w) {c f : Nat} {y : D} {v : V} {u : Value} {pins : List (Addr × Obj)} {σ : L2.St} {s : Shared} (I : Inv X pins σ H s) (hf : T.eqF c = some f) (mm : Mm (mkS T X.K hid) μ H) (r : Dat (mkS T X.K hid) μ H v y) (ru : RelV v u) (h : eqOk T μ y) :
    ∃ tb, PySem.W.Looks (model X.prog X.w) s.heap (typeOf u) tb ∧ PySem.W.notFirst X.K (cA T X.K c) tb = true := by
  obtain ⟨fd, _, _, _, _, _, nk, ni⟩ := tk.eq c f hf
  unfold eqOk at h
  split at h
  · rename_i n hn
    obtain ⟨P, Z, hp, _⟩ := kit_of I ru (tyX_of rfl mm r hn)
    exact ⟨_, Z.ty _ _ I.kIn hp, nk n (tyD_kind hn)⟩
  · rename_i hn
    split at h
    · rename_i a
      split at h
      · rename_i c' fs ha
        obtain ⟨f', hf'⟩ := Option.isSome_iff_exists.mp h
        obtain ⟨fd', _, _, io, _⟩ := tk.init c' f' hf'
        cases r
        obtain ⟨P, Z, hp, _⟩ := kit_of I ru (tyX_ins mm io ha)
        exact ⟨_, Z.ty _ _ I.kIn hp, ni c' f' hf'⟩
      · exact h.elim
    · exact h.elim
/-- one comparison, the own == too -/
theorem cmpC_run {op : CmpOp} {x y : D} {vx vy : V} {u v : Value} {pins : List (Addr × Obj)} {σ : L2.St} {s : Shared} {Φ : AQ} {Ψ : AX} {Q : VK} (st : Site T call k N sc cs true noPn X) (tk : Takes X W) (I : Inv X pins σ H s) (mm : Mm (mkS T X.K hid) μ H) (dx : Dat (mkS T X.K hid) μ H vx x) (dy : Dat (mkS T X.K hid) μ H vy y)
    (ru : RelV vx u) (rv : RelV vy v) (h : cmpC T call op x y μ Φ Ψ) (kq : KQ (mkS T X.K hid) μ H Φ Q) (kx : KX (mkS T X.K hid) μ H Ψ (WE W σ)) : wpAny (model X.prog X.w) X.A (compareOp op u v) (EP X pins σ Q) X.xe s := by
  obtain ⟨hc, hr, _⟩ := st.calm rfl
  have plain : ∀ op, cmpS op x y μ Φ → wpAny (model X.prog X.w) X.A (compareOp op u v) (EP X pins σ Q) X.xe s := fun op h => op_cmpS (S := mkS T X.K hid) rfl st.un op pins s σ H vx vy u v Q I ru rv ⟨x, y, μ, Φ, mm, dx, dy, h, kq⟩
  unfold cmpC at h
  split at h
  · rename_i a
    split at h
    · rename_i c fs ha
      split at h
      · rename_i f hf
        cases dx
        cases ru
        obtain ⟨fd, hfd, at_, fn, _, _, _, _⟩ := st.tk.eq c f hf
        have F := st.fs f fd hfd
        obtain ⟨dx0, ws, hH, fl⟩ := mm.ok a _ ha
        obtain ⟨mA, O, _⟩ := ins_get I.hok hH
        obtain ⟨od, J, _⟩ := O.look
        obtain ⟨m, hF⟩ := I.fr
        obtain ⟨tb, L, nf⟩ := eqOk_ty st.tk I hf mm dy rv h.1
        show wpAny (model X.prog X.w) X.A (richCompare .Eq (.ref a) v) _ _ _
        refine PySem.W.cmp_K (op := .Eq) hr.units0 hF I.ok.mod.kin J L nf at_ fn (wpAny_mono (runGA (A := X.A) F rfl st.gd (hr.mono (Nat.le_succ _)) tk I (us := [.ref a, v]) (vs := [.ref a, vy]) (.cons rfl (.cons rv .nil)) (Q := fun z H' => ∃ b, z = .bl b ∧ Q (.bl b) H')
          (lSp.go mm (.cons (.ref a) (.cons dy .nil)) h.2 (fun d μ' z H' g' m' r' h' => ?_) kx)) (fun z s' hz => ?_) fun _ _ e => e)
        · obtain ⟨b, e, q⟩ := h'
          subst e
          cases r'
          exact ⟨b, rfl, kq _ _ _ _ g' m' (.bl b) q⟩
        · obtain ⟨z', H', I', rz, b, e, q⟩ := hz
          subst e
          cases rz
          exact ⟨.bl b, H', I', rfl, q⟩
      · exact h.elim
    · exact plain .Eq h
  · rename_i a
    split at h
    · rename_i c fs ha
      split at h
      · rename_i f hf
        cases dx
        cases ru
        obtain ⟨fd, hfd, at_, fn, ne, io, _, _⟩ := st.tk.eq c f hf
        have F := st.fs f fd hfd
        obtain ⟨dx0, ws, hH, fl⟩ := mm.ok a _ ha
        obtain ⟨mA, O, _⟩ := ins_get I.hok hH
        obtain ⟨od, J, _⟩ := O.look
        obtain ⟨tb, L, nf⟩ := eqOk_ty st.tk I hf mm dy rv h.1
        show wpAny (model X.prog X.w) X.A (richCompare .NotEq (.ref a) v) _ _ _
        refine ne_K (by have := hr.units; omega) I.kIn J L nf at_ fn ne io.hm (wpAny_mono (runGA (A := X.A.in1) F rfl st.gd hr.in1 tk I (us := [.ref a, v]) (vs := [.ref a, vy]) (.cons rfl (.cons rv .nil)) (Q := fun z H' => ∃ b, z = .bl b ∧ Q (.bl (!b)) H')
          (lSp.go mm (.cons (.ref a) (.cons dy .nil)) h.2 (fun d μ' z H' g' m' r' h' => ?_) kx)) (fun z s' hz => ?_) fun _ _ e => e)
        · obtain ⟨b, e, q⟩ := h'
          subst e
          cases r'
          exact ⟨b, rfl, kq _ _ _ _ g' m' (.bl (!b)) q⟩
        · obtain ⟨z', H', I', rz, b, e, q⟩ := hz
          subst e
          cases rz
          exact ⟨b, rfl, .bl (!b), H', I', rfl, q⟩
      · exact h.elim
    · exact plain .NotEq h
  · exact plain op h
theorem pc_cmpW {op : CmpOp} {a b : Expr} {wa wb : AE} (st : Site T call k N sc cs true noPn X) (tk : Takes X W) (pa : PE X a (lE (mkS T X.K hid) noPn W wa)) (pb : PE X b (lE (mkS T X.K hid) noPn W wb)) :
    PC X op a b (lE (mkS T X.K hid) noPn W fun ρ μ Φ Ψ => wa ρ μ (fun x μ1 => wb ρ μ1 (fun y μ2 => cmpC T call op x y μ2 Φ Ψ) Ψ) Ψ) := by
  refine ⟨fun pins s σ H Q I h => ?_⟩
  obtain ⟨ρ, μ, Φ, Ψ, s2, hw, kq, kx⟩ := h
  have h2 := lE.bind2 (R := fun vx vy H2 => ∃ x y μ2, Mm (mkS T X.K hid) μ2 H2 ∧ Dat (mkS T X.K hid) μ2 H2 vx x ∧ Dat (mkS T X.K hid) μ2 H2 vy y ∧ cmpC T call op x y μ2 Φ Ψ ∧ KQ (mkS T X.K hid) μ2 H2 Φ Q ∧ KX (mkS T X.K hid) μ2 H2 Ψ (WE W σ)) s2 hw kx
    fun x y μ2 vx vy H2 g s3 rx ry kx2 b => ⟨x, y, μ2, s3.mm, rx, ry, b, kq.grow g, kx2⟩
  refine thn (pa.run pins s σ H _ I h2) fun u s1 z => ?_
  obtain ⟨vx, H1, I1, ru, h3⟩ := z
  refine thn (pb.run pins s1 σ H1 _ I1 h3) fun v s3 z => ?_
  obtain ⟨vy, H2, I2, rv, x, y, μ2, mm, dx, dy, hcmp, kq2, kx2⟩ := z
  exact cmpC_run st tk I2 mm dx dy ru rv hcmp kq2 kx2
/-- a bool's reading as a test -/
theorem lT_tB {S : Sg} {call : ACall} {c : CE} : ∀ σ H Q, lT S Pn W (wT T call c) σ H Q → tB (lE S Pn W (wE T call c)) σ H Q := by
  intro σ H Q h
  obtain ⟨ρ, μ, Φ, Ψ, s2, hw, kt, kx⟩ := h
  refine ⟨ρ, μ, _, Ψ, s2, hw, fun d μ' v H' g m r q => ?_, kx⟩
  cases d <;> first
    | exact q.elim
    | skip
  cases r
  exact ⟨_, rfl, kt _ _ _ g m q⟩
end
end Fk
end
section
set_option maxHeartbeats 4000000
/-! Expressions by values: the forms, each from its parts. -/
namespace Fk
open PySem PySem.Spec PyProof.Rows L2
/-- an expression is what its core says, as a value and as a test -/
structure Snd (T : Tbl) (call : ACall) (X : Cx) (Pn : PX) (e : Expr) (c : CE) : Prop where
  pe : ∀ (hid : Addr → Prop) (W : WX), Takes X W → PE X e (lE (mkS T X.K hid) Pn W (wE T call c))
  pt : ∀ (hid : Addr → Prop) (W : WX), Takes X W → PT X e (lT (mkS T X.K hid) Pn W (wT T call c))
def plainT : Expr → Bool
  | .UnaryOp .Not _ _ => false
  | .BoolOp _ _ _ => false
  | .IfExp _ _ _ _ => false
  | .Compare _ _ _ _ => false
  | _ => true
theorem isTrue_of {e : Expr} {env : PySem.Env} (h : plainT e = true) (whole : Sem Value) : isTrue e env whole = (do let v ← whole; standAt e.pos; holding [v] (truthy v)) := by
  cases e <;> first
    | rfl
    | (cases h; done)
    | (rename_i op _ _; cases op <;> first
        | rfl
        | (cases h; done))
def PEs (T : Tbl) (call : ACall) (X : Cx) (Pn : PX) : List Expr → CEs → Prop
  | [], .nil => True
  | e :: es, .cons c cs => (Snd T call X Pn e c ∧ noStar e = true) ∧ PEs T call X Pn es cs
  | _, _ => False
section
variable {T : Tbl} {call : ACall} {k : Nat} {N : List Str} {sc cs : Scope} {X : Cx} {hid : Addr → Prop} {W : WX} {μ : Mem} {H : Hp} {cm : Bool} {Pn : PX}
theorem Snd.of {e : Expr} {c : CE} (hp : plainT e = true) (h : ∀ (hid : Addr → Prop) (W : WX), Takes X W → PE X e (lE (mkS T X.K hid) Pn W (wE T call c))) : Snd T call X Pn e c :=
  ⟨h, fun hid W tk => PT.weak (PT.of_bool (h hid W tk) fun whole => isTrue_of hp whole) lT_tB⟩
theorem PEs.star : ∀ {es : List Expr} {c : CEs}, PEs T call X Pn es c → es.all noStar = true
  | [], .nil, _ => rfl
  | e :: es, .cons c cs, h => by
    show (noStar e && es.all noStar) = true
    rw [h.1.2, PEs.star h.2]
    rfl
  | [], .cons _ _, h => h.elim
  | _ :: _, .nil, h => h.elim
theorem PEs.pa (tk : Takes X W) : ∀ {es : List Expr} {c : CEs}, PEs T call X Pn es c → PA X es (lA (mkS T X.K hid) Pn W (wEs T call c))
  | [], .nil, _ => PA.weak pa_nil fun σ H Q h => by
    obtain ⟨ρ, μ, Φ, Ψ, s2, hw, kq, kx⟩ := h
    exact kq [] μ [] H (Grow.refl _ _) s2.mm .nil hw
  | e :: es, .cons c cs, h => PA.weak (pa_cons (h.1.1.pe hid W tk) (PEs.pa tk h.2) (star_cons h.1.2)) fun σ H Q h => by
    obtain ⟨ρ, μ, Φ, Ψ, s2, hw, kq, kx⟩ := h
    exact lE.bind s2 hw kx fun x μ1 vx H1 g s3 r kx1 b => lA.bind s3 b kx1 fun xs μ2 vxs H2 g2 s4 rs kx2 b2 => kq _ _ _ _ (g.trans g2) s4.mm (.cons (r.grow g2) rs) b2
  | [], .cons _ _, h => h.elim
  | _ :: _, .nil, h => h.elim
theorem PEs.nil0 {es : List Expr} {c : CEs} (h : PEs T call X Pn es c) (e : es = []) : ∀ ρ μ B Ψ, wEs T call c ρ μ B Ψ → B [] μ := by
  subst e
  cases c with
  | nil => exact fun ρ μ B Ψ h => h
  | cons _ _ => exact h.elim
theorem PEs.pk (tk : Takes X W) : ∀ {kws : List Keyword} {c : CEs}, PEs T call X Pn (kws.map (·.value)) c → PK X kws (lA (mkS T X.K hid) Pn W (wEs T call c))
  | [], .nil, _ => ⟨fun pos pins s σ H Q I h => pk_nil.run pos pins s σ H Q I (by
    obtain ⟨ρ, μ, Φ, Ψ, s2, hw, kq, kx⟩ := h
    exact kq [] μ [] H (Grow.refl _ _) s2.mm .nil hw)⟩
  | ⟨nm, e, kp⟩ :: kws, .cons c cs, h => ⟨fun pos pins s σ H Q I q => (pk_cons (nm := nm) (kpos := kp) (h.1.1.pe hid W tk) (PEs.pk tk h.2)).run pos pins s σ H Q I (by
    obtain ⟨ρ, μ, Φ, Ψ, s2, hw, kq, kx⟩ := q
    exact lE.bind s2 hw kx fun x μ1 vx H1 g s3 r kx1 b => lA.bind s3 b kx1 fun xs μ2 vxs H2 g2 s4 rs kx2 b2 => kq _ _ _ _ (g.trans g2) s4.mm (.cons (r.grow g2) rs) b2)⟩
  | [], .cons _ _, h => h.elim
  | _ :: _, .nil, h => h.elim
/-! and, or -/
theorem PEs.bop (o : BoolOp) : ∀ {es : List Expr} {c : CEs} {pos : Pos}, PEs T call X Pn es c → es ≠ [] → (∀ (hid : Addr → Prop) (W : WX), Takes X W → PE X (.BoolOp o es pos) (lE (mkS T X.K hid) Pn W (wB T call o c))) ∧
    ∀ (hid : Addr → Prop) (W : WX), Takes X W → PW X (.BoolOp o es pos) (lT (mkS T X.K hid) Pn W fun ρ μ Φ Ψ => wB T call o c ρ μ (fun d μ1 => match d with
      | .bl b => Φ b μ1
      | _ => False) Ψ)
  | [], _, _, _, h => absurd rfl h
  | [e], .cons c .nil, pos, h, _ => ⟨fun hid W tk => pe_one (h.1.1.pe hid W tk), fun hid W tk => by
      cases o with
      | And => exact pw_and1 (h.1.1.pt hid W tk)
      | Or => exact pw_or1 (h.1.1.pt hid W tk)⟩
  | e :: e2 :: es, .cons c (.cons c2 cs), pos, h, _ => by
    obtain ⟨i1, i2⟩ := PEs.bop o (es := e2 :: es) (c := .cons c2 cs) (pos := pos) h.2 (by simp)
    cases o with
    | And =>
      refine ⟨fun hid W tk => PE.weak (pe_and (h.1.1.pe hid W tk) (i1 hid W tk)) fun σ H Q h => ?_, fun hid W tk => ⟨fun wh pins s σ H Q I q => ((pw_and (h.1.1.pt hid W tk) (i2 hid W tk)).run wh pins s σ H Q I ?_)⟩⟩
      · obtain ⟨ρ, μ, Φ, Ψ, s2, hw, kq, kx⟩ := h
        refine lE.bind s2 hw kx fun x μ1 vx H1 g s3 r kx1 b => ?_
        cases x <;> first
          | exact b.elim
          | skip
        rename_i b0
        cases r
        refine ⟨b0, rfl, ?_⟩
        cases b0 with
        | true => exact ⟨ρ, μ1, Φ, Ψ, s3, b, kq.grow g, kx1⟩
        | false => exact kq _ _ _ _ g s3.mm (.bl false) b
      · obtain ⟨ρ, μ, Φ, Ψ, s2, hw, kt, kx⟩ := q
        have hw2 : wT T call c ρ μ (fun b μ1 => if b = true then wB T call .And (.cons c2 cs) ρ μ1 (fun d μ1 => match d with
            | .bl b => Φ b μ1
            | _ => False) Ψ else Φ false μ1) Ψ := hw
        refine lT.bind s2 hw2 kx fun b μ1 H1 g s3 kx1 q => ?_
        cases b with
        | true => exact ⟨ρ, μ1, Φ, Ψ, s3, q, fun b μ' H' g' m' => kt b μ' H' (g.trans g') m', kx1⟩
        | false => exact kt _ _ _ g s3.mm q
    | Or =>
      refine ⟨fun hid W tk => PE.weak (pe_or (h.1.1.pe hid W tk) (i1 hid W tk)) fun σ H Q h => ?_, fun hid W tk => ⟨fun wh pins s σ H Q I q => ((pw_or (h.1.1.pt hid W tk) (i2 hid W tk)).run wh pins s σ H Q I ?_)⟩⟩
      · obtain ⟨ρ, μ, Φ, Ψ, s2, hw, kq, kx⟩ := h
        refine lE.bind s2 hw kx fun x μ1 vx H1 g s3 r kx1 b => ?_
        cases x <;> first
          | exact b.elim
          | skip
        rename_i b0
        cases r
        refine ⟨b0, rfl, ?_⟩
        cases b0 with
        | false => exact ⟨ρ, μ1, Φ, Ψ, s3, b, kq.grow g, kx1⟩
        | true => exact kq _ _ _ _ g s3.mm (.bl true) b
      · obtain ⟨ρ, μ, Φ, Ψ, s2, hw, kt, kx⟩ := q
        have hw2 : wT T call c ρ μ (fun b μ1 => if b = true then Φ true μ1 else wB T call .Or (.cons c2 cs) ρ μ1 (fun d μ1 => match d with
            | .bl b => Φ b μ1
            | _ => False) Ψ) Ψ := hw
        refine lT.bind s2 hw2 kx fun b μ1 H1 g s3 kx1 q => ?_
        cases b with
        | false => exact ⟨ρ, μ1, Φ, Ψ, s3, q, fun b μ' H' g' m' => kt b μ' H' (g.trans g') m', kx1⟩
        | true => exact kt _ _ _ g s3.mm q
  | _ :: _, .nil, _, h, _ => h.elim
  | [_], .cons _ (.cons _ _), _, h, _ => h.2.elim
  | _ :: _ :: _, .cons _ .nil, _, h, _ => h.2.elim
end
end Fk
end
section
set_option maxHeartbeats 4000000
namespace Fk
open PySem PySem.Spec PyProof.Rows L2
section
variable {T : Tbl} {call : ACall} {k : Nat} {N : List Str} {sc cs : Scope} {X : Cx} {hid : Addr → Prop} {W : WX} {μ : Mem} {H : Hp} {cm : Bool} {Pn : PX}
theorem snd_con {e : Expr} {d : D} (hp : plainT e = true) {v : V} (h : PE X e (tC v)) (r : ∀ (hid : Addr → Prop) μ H, Dat (mkS T X.K hid) μ H v d) : Snd T call X Pn e (.con d) :=
  .of hp fun hid W tk => PE.weak h fun σ H Q h => by
    obtain ⟨ρ, μ, Φ, Ψ, s2, hw, kq, kx⟩ := h
    exact kq.now s2.mm (r hid μ H) hw
theorem getSlot_at {ρ : Env} {i : Nat} {d : D} (h : getSlot ρ i = some d) : ρ[i]? = some (some d) ∧ isX d = false := by
  unfold getSlot at h
  split at h
  · rename_i d' e
    cases hx : isX d' with
    | true => rw [hx] at h; cases h
    | false =>
      rw [hx] at h
      cases h
      exact ⟨e, hx⟩
  · cases h
theorem snd_var {i : Nat} {x : Str} {p : Pos} (hi : X.N[i]? = some x) (hv : Vis X.env.scope x) (hd : (x == ("__debug__" : Str)) = false) (hcd : (x == ("__classdict__" : Str)) = false) : Snd T call X Pn (.Name x p) (.var i) :=
  .of rfl fun hid W tk => PE.weak (pe_var hi hv hd hcd) fun σ H Q h => by
    obtain ⟨ρ, μ, Φ, Ψ, s2, hw, kq, kx⟩ := h
    have hw2 : (match getSlot ρ i with
      | some d => Φ d μ
      | none => False) := hw
    split at hw2
    · rename_i d hd0
      obtain ⟨e, hx⟩ := getSlot_at hd0
      obtain ⟨v, h1, h2⟩ := s2.sl i d e
      exact ⟨v, h1, kq.now s2.mm (h2.dat hx) hw2⟩
    · exact hw2.elim
theorem snd_neg {e : Expr} {c : CE} {p : Pos} (h : Snd T call X Pn e c) : Snd T call X Pn (.UnaryOp .USub e p) (.neg c) :=
  .of rfl fun hid W tk => PE.weak (pe_un un_neg (h.pe hid W tk)) fun σ H Q h => by
    obtain ⟨ρ, μ, Φ, Ψ, s2, hw, kq, kx⟩ := h
    refine lE.bind s2 hw kx fun x μ1 vx H1 g s3 r kx1 b => ?_
    cases x <;> first
      | exact b.elim
      | skip
    cases r
    exact ⟨_, rfl, kq _ _ _ _ g s3.mm (.int _) b⟩
theorem snd_not {e : Expr} {c : CE} {p : Pos} (h : Snd T call X Pn e c) : Snd T call X Pn (.UnaryOp .Not e p) (.not c) := by
  refine ⟨fun hid W tk => PE.weak (pe_not (h.pe hid W tk)) fun σ H Q h => ?_, fun hid W tk => PT.weak (pt_not (h.pt hid W tk)) fun σ H Q h => ?_⟩
  · obtain ⟨ρ, μ, Φ, Ψ, s2, hw, kq, kx⟩ := h
    refine lE.bind s2 hw kx fun x μ1 vx H1 g s3 r kx1 b => ?_
    cases x <;> first
      | exact b.elim
      | skip
    cases r
    exact ⟨_, rfl, kq _ _ _ _ g s3.mm (.bl _) b⟩
  · obtain ⟨ρ, μ, Φ, Ψ, s2, hw, kt, kx⟩ := h
    have hw2 : wT T call c ρ μ (fun b μ1 => Φ (!b) μ1) Ψ := hw
    exact lT.bind s2 hw2 kx fun b μ1 H1 g s3 kx1 q => kt _ _ _ g s3.mm q
theorem snd_cmp {op : CmpOp} {a b : Expr} {ca cb : CE} {p : Pos} (st : Site T call k N sc cs true noPn X) (ha : Snd T call X noPn a ca) (hb : Snd T call X noPn b cb) (hm : behindInMarks op b = false) : Snd T call X noPn (.Compare a [op] [b] p) (.cmp op ca cb) :=
  ⟨fun hid W tk => pe_cmp (pc_cmpW st tk (ha.pe hid W tk) (hb.pe hid W tk)) hm, fun hid W tk => PT.weak (pt_cmp (pc_cmpW st tk (ha.pe hid W tk) (hb.pe hid W tk)) hm) (lT_tB (c := .cmp op ca cb))⟩
theorem chain_read {o1 o2 : CmpOp} {ca cb cc : CE} : ∀ σ H Q, lE (mkS T X.K hid) Pn W (wE T call (.chain o1 o2 ca cb cc)) σ H Q →
    tChain (l2 (mkS T X.K hid) (cmpS o1)) (l2 (mkS T X.K hid) (cmpS o2)) (lE (mkS T X.K hid) Pn W (wE T call ca)) (lE (mkS T X.K hid) Pn W (wE T call cb)) (lE (mkS T X.K hid) Pn W (wE T call cc)) σ H Q := by
  intro σ H Q h
  obtain ⟨ρ, μ, Φ, Ψ, s2, hw, kq, kx⟩ := h
  refine lE.bind2 s2 hw kx fun x y μ2 vx vy H2 g s3 rx ry kx2 b => ?_
  refine ⟨x, y, μ2, _, s3.mm, rx, ry, b, fun d μ' v H' g' m' r' h' => ?_⟩
  cases d <;> first
    | exact h'.elim
    | skip
  rename_i b0
  cases r'
  refine ⟨b0, rfl, ?_⟩
  cases b0 with
  | true =>
    rw [if_pos rfl]
    have h2 : wE T call cc ρ μ' (fun z μ4 => cmpS o2 y z μ4 Φ) Ψ := h'
    exact lE.bind (s3.grow g' m') h2 (kx2.grow g') fun z μ4 vz H4 g4 s4 rz kx4 q => ⟨y, z, μ4, Φ, s4.mm, (ry.grow g').grow g4, rz, q, ((kq.grow g).grow g').grow g4⟩
  | false =>
    rw [if_neg Bool.false_ne_true]
    exact kq _ _ _ _ (g.trans g') m' (.bl false) h'
theorem snd_chain {o1 o2 : CmpOp} {a b c : Expr} {ca cb cc : CE} {p : Pos} (st : Site T call k N sc cs cm Pn X) (ha : Snd T call X Pn a ca) (hb : Snd T call X Pn b cb) (hc : Snd T call X Pn c cc) (hm : lastMarks [o1, o2] [b, c] = false) :
    Snd T call X Pn (.Compare a [o1, o2] [b, c] p) (.chain o1 o2 ca cb cc) :=
  ⟨fun hid W tk => PE.weak (pe_chain (op_cmpS (S := mkS T X.K hid) rfl st.un o1) (op_cmpS (S := mkS T X.K hid) rfl st.un o2) (ha.pe hid W tk) (hb.pe hid W tk) (hc.pe hid W tk) hm) chain_read,
   fun hid W tk => PT.weak (pt_chain (op_cmpS (S := mkS T X.K hid) rfl st.un o1) (op_cmpS (S := mkS T X.K hid) rfl st.un o2) (ha.pe hid W tk) (hb.pe hid W tk) (hc.pe hid W tk) hm) fun σ H Q h => chain_read σ H _ (lT_tB (c := .chain o1 o2 ca cb cc) σ H Q h)⟩
theorem snd_ite {t a b : Expr} {ct ca cb : CE} {p : Pos} (ht : Snd T call X Pn t ct) (ha : Snd T call X Pn a ca) (hb : Snd T call X Pn b cb) : Snd T call X Pn (.IfExp t a b p) (.ite ct ca cb) := by
  have fe : ∀ {ρ : Env} {Φ : AQ} {Ψ : AX}, (fun k μ1 => match k with
    | .bl true => wE T call ca ρ μ1 Φ Ψ
    | .bl false => wE T call cb ρ μ1 Φ Ψ
    | _ => False : AQ) = (fun d μ1 => match d with
    | .bl x => (if x = true then wE T call ca ρ μ1 Φ Ψ else wE T call cb ρ μ1 Φ Ψ)
    | _ => False) := by
    intro ρ Φ Ψ
    funext d μ1
    cases d <;> first
      | rfl
      | skip
    rename_i x
    cases x <;> simp
  refine ⟨fun hid W tk => PE.weak (pe_ifExp (ht.pt hid W tk) (ha.pe hid W tk) (hb.pe hid W tk)) fun σ H Q h => ?_, fun hid W tk => ⟨fun pins s σ H Q I h => ?_⟩⟩
  · obtain ⟨ρ, μ, Φ, Ψ, s2, hw, kq, kx⟩ := h
    have hw1 : wE T call ct ρ μ (fun k μ1 => match k with
      | .bl true => wE T call ca ρ μ1 Φ Ψ
      | .bl false => wE T call cb ρ μ1 Φ Ψ
      | _ => False) Ψ := hw
    rw [fe] at hw1
    have hw2 : wT T call ct ρ μ (fun x μ1 => if x = true then wE T call ca ρ μ1 Φ Ψ else wE T call cb ρ μ1 Φ Ψ) Ψ := hw1
    refine lT.bind s2 hw2 kx fun x μ1 H1 g s3 kx1 q => ?_
    cases x with
    | true => exact ⟨ρ, μ1, Φ, Ψ, s3, q, kq.grow g, kx1⟩
    | false => exact ⟨ρ, μ1, Φ, Ψ, s3, q, kq.grow g, kx1⟩
  · obtain ⟨ρ, μ, Φ, Ψ, s2, hw, kt, kx⟩ := h
    have hw1 : wE T call ct ρ μ (fun k μ1 => match k with
      | .bl true => wE T call ca ρ μ1 (fun d μ1 => match d with
        | .bl b => Φ b μ1
        | _ => False) Ψ
      | .bl false => wE T call cb ρ μ1 (fun d μ1 => match d with
        | .bl b => Φ b μ1
        | _ => False) Ψ
      | _ => False) Ψ := hw
    rw [fe] at hw1
    have hw2 : wT T call ct ρ μ (fun x μ1 => if x = true then wT T call ca ρ μ1 Φ Ψ else wT T call cb ρ μ1 Φ Ψ) Ψ := hw1
    show wpAny _ _ (do if ← isTrue t X.env (eval t X.env) then isTrue a X.env (eval a X.env) else isTrue b X.env (eval b X.env)) _ _ s
    refine wpAny_bind (thn ((ht.pt hid W tk).run pins s σ H _ I (lT.bind (R := fun x H1 => if x = true then lT (mkS T X.K hid) Pn W (wT T call ca) σ H1 Q else lT (mkS T X.K hid) Pn W (wT T call cb) σ H1 Q) s2 hw2 kx fun x μ1 H1 g s3 kx1 q => ?_)) fun x s1 z => ?_)
    · cases x with
      | true => exact ⟨ρ, μ1, Φ, Ψ, s3, q, fun b μ' H' g' m' => kt b μ' H' (g.trans g') m', kx1⟩
      | false => exact ⟨ρ, μ1, Φ, Ψ, s3, q, fun b μ' H' g' m' => kt b μ' H' (g.trans g') m', kx1⟩
    · obtain ⟨H1, I1, q⟩ := z
      cases x with
      | true => exact (ha.pt hid W tk).run pins s1 σ H1 Q I1 q
      | false => exact (hb.pt hid W tk).run pins s1 σ H1 Q I1 q
theorem snd_bop {o : BoolOp} {es : List Expr} {c : CEs} {p : Pos} (h : PEs T call X Pn es c) (h0 : es ≠ []) : Snd T call X Pn (.BoolOp o es p) (.bop o c) :=
  ⟨fun hid W tk => (PEs.bop o h h0).1 hid W tk, fun hid W tk => ((PEs.bop o h h0).2 hid W tk).pt⟩
theorem line1000 : 1000 ≤ sizeLine := by rw [sizeLine_eq]; omega
theorem snd_tup {es : List Expr} {c : CEs} {n : Nat} {p : Pos} (h : PEs T call X Pn es c) : Snd T call X Pn (.Tuple es n p) (.tup c) :=
  .of rfl fun hid W tk => PE.weak (pe_tup (h.pa tk)) fun σ H Q h => by
    obtain ⟨ρ, μ, Φ, Ψ, s2, hw, kq, kx⟩ := h
    exact lA.bind s2 hw kx fun xs μ1 vxs H1 g s3 r kx1 b => ⟨by rw [r.length]; exact Nat.le_trans b.1 line1000, fun p hp => (kq.grow g).tup s3.mm r b.2 p hp⟩
theorem snd_lst {m : Bool} {es : List Expr} {c : CEs} {p : Pos} (h : PEs T call X Pn es c) : Snd T call X Pn (.List es p) (.lst m c) :=
  .of rfl fun hid W tk => PE.weak (pe_lst (h.pa tk)) fun σ H Q h => by
    obtain ⟨ρ, μ, Φ, Ψ, s2, hw, kq, kx⟩ := h
    exact lA.bind s2 hw kx fun xs μ1 vxs H1 g s3 r kx1 b => ⟨by rw [r.length]; exact Nat.le_trans b.1 line1000, fun p hp => newL_ok s3.mm r b.2 (kq.grow g) p hp⟩
theorem snd_bin {m : Bool} {op : Operator} {a b : Expr} {ca cb : CE} {p : Pos} (ha : Snd T call X Pn a ca) (hb : Snd T call X Pn b cb) : Snd T call X Pn (.BinOp a op b p) (.bin m op ca cb) :=
  .of rfl fun hid W tk => pe_binW (ha.pe hid W tk) (hb.pe hid W tk)
theorem snd_sub {a b : Expr} {ca cb : CE} {p : Pos} (st : Site T call k N sc cs cm Pn X) (hs : noSlice b = true) (ha : Snd T call X Pn a ca) (hb : Snd T call X Pn b cb) : Snd T call X Pn (.Subscript a b p) (.sub ca cb) :=
  .of rfl fun hid W tk => pe_subW st hs (ha.pe hid W tk) (hb.pe hid W tk)
theorem snd_frz {e : Expr} {c : CE} (hp : plainT e = true) (h : Snd T call X Pn e c) : Snd T call X Pn e (.frz c) :=
  .of hp fun hid W tk => PE.weak (h.pe hid W tk) fun σ H Q h => by
    obtain ⟨ρ, μ, Φ, Ψ, s2, hw, kq, kx⟩ := h
    refine ⟨ρ, μ, _, Ψ, s2, hw, fun d μ' v H' g m r q => ?_, kx⟩
    have q2 : frz d μ' Φ := q
    unfold frz at q2
    split at q2
    · rename_i a
      cases r
      split at q2
      · rename_i ds ha
        obtain ⟨vs, h1, r⟩ := m.ok a _ ha
        have nh : ¬ hid a := fun z => by have := (m.hd a z).1; rw [ha] at this; cases this
        exact kq _ _ _ _ (g.trans Grow.freeze) m.freeze (.list mdel_same nh h1 (r.grow Grow.freeze)) q2
      · rename_i ks ds ha
        obtain ⟨kvs, vs, h1, h2, h3, r⟩ := m.ok a _ ha
        have nh : ¬ hid a := fun z => by have := (m.hd a z).1; rw [ha] at this; cases this
        exact kq _ _ _ _ (g.trans Grow.freeze) m.freeze (.dict mdel_same nh h1 h2 h3 (r.grow Grow.freeze)) q2
      · exact q2.elim
    · exact kq _ _ _ _ g m r q2
end
end Fk
end
section
set_option maxHeartbeats 4000000
namespace Fk
open PySem PySem.Spec PyProof.Rows L2
section
variable {T : Tbl} {call : ACall} {k : Nat} {N : List Str} {sc cs : Scope} {X : Cx} {hid : Addr → Prop} {W : WX} {μ : Mem} {H : Hp} {cm : Bool} {Pn : PX}
/-- a part of a slice -/
def lO (S : Sg) (Pn : PX) (W : WX) (w : Env → Mem → (Option Int → Mem → Prop) → AX → Prop) : TO := fun σ H Q => ∃ ρ μ Φ Ψ, St2 S Pn ρ σ μ H ∧ w ρ μ Φ Ψ ∧ (∀ d μ' H', Grow μ H μ' H' → Mm S μ' H' → Φ d μ' → Q d H') ∧ KX S μ H Ψ (fun cls dd H' => W cls dd σ H')
structure SndO (T : Tbl) (call : ACall) (X : Cx) (Pn : PX) (e : Option Expr) (c : CO) : Prop where
  po : ∀ (hid : Addr → Prop) (W : WX), Takes X W → PO X e (lO (mkS T X.K hid) Pn W (wO T call c))
theorem sndO_no : SndO T call X Pn none .no := ⟨fun hid W tk => ⟨fun pins s σ H Q I h => by
  obtain ⟨ρ, μ, Φ, Ψ, s2, hw, kt, kx⟩ := h
  exact po_none.run pins s σ H Q I (kt none μ H (Grow.refl _ _) s2.mm hw)⟩⟩
theorem sndO_some {e : Expr} {c : CE} (h : Snd T call X Pn e c) : SndO T call X Pn (some e) (.some c) := ⟨fun hid W tk => ⟨fun pins s σ H Q I q => by
  refine (po_some (h.pe hid W tk)).run pins s σ H Q I ?_
  obtain ⟨ρ, μ, Φ, Ψ, s2, hw, kt, kx⟩ := q
  refine lE.bind s2 hw kx fun x μ1 vx H1 g s3 r kx1 b => ?_
  cases x <;> first
    | exact b.elim
    | skip
  cases r
  exact ⟨_, rfl, kt _ _ _ g s3.mm b⟩⟩⟩
theorem snd_slc {a : Expr} {lo hi : Option Expr} {p p2 : Pos} {ca : CE} {cl ch : CO} (ha : Snd T call X Pn a ca) (hl : SndO T call X Pn lo cl) (hh : SndO T call X Pn hi ch) : Snd T call X Pn (.Subscript a (.Slice lo hi none p2) p) (.slc ca cl ch) :=
  .of rfl fun hid W tk => PE.weak (pe_slice ((sl_list.or sl_tup).or sl_str) (ha.pe hid W tk) (hl.po hid W tk) (hh.po hid W tk)) fun σ H Q h => by
    obtain ⟨ρ, μ, Φ, Ψ, s2, hw, kq, kx⟩ := h
    refine lE.bind s2 hw kx fun x μ1 vx H1 g s3 r kx1 b => ?_
    refine ⟨ρ, μ1, _, Ψ, s3, b, fun l μ2 H2 g2 m2 b2 => ?_, kx1⟩
    refine ⟨ρ, μ2, _, Ψ, s3.grow g2 m2, b2, fun u μ3 H3 g3 m3 b3 => ?_, kx1.grow g2⟩
    have r3 := (r.grow g2).grow g3
    have kq3 := ((kq.grow g).grow g2).grow g3
    have b4 : (match deref μ3 x with
      | .list ds => Φ (.list ((ds.drop (HT.sIx ds.length 0 l)).take (HT.sIx ds.length ds.length u - HT.sIx ds.length 0 l))) μ3
      | .tup ds => (ds.drop (HT.sIx ds.length 0 l)).take (HT.sIx ds.length ds.length u - HT.sIx ds.length 0 l) ≠ ds ∧ Φ (.tup ((ds.drop (HT.sIx ds.length 0 l)).take (HT.sIx ds.length ds.length u - HT.sIx ds.length 0 l))) μ3
      | .str s => s.length ≤ sizeLine ∧ Φ (.str (cutS s l u)) μ3
      | _ => False) := b3
    split at b4
    · rename_i ds hd
      obtain ⟨a, vs, rfl, h1, rr⟩ := deref_list m3 r3 hd
      refine .inl (.inl ⟨a, vs, rfl, SqL.of h1, fun p hp => ?_⟩)
      have e : vs.length = ds.length := rr.length
      unfold cutV
      rw [e]
      exact kq3.lst m3 ((rr.drop _).take _) b4 p hp
    · rename_i ds hd
      obtain ⟨a, vs, rfl, h1, rr⟩ := deref_tup m3 r3 hd
      have e : vs.length = ds.length := rr.length
      refine .inl (.inr ⟨a, vs, rfl, h1, ?_, fun p hp => ?_⟩)
      · rintro ⟨z1, z2⟩
        refine b4.1 ?_
        rw [e] at z1 z2
        rw [z1, z2]
        simp
      · unfold cutV
        rw [e]
        exact kq3.tup m3 ((rr.drop _).take _) b4.2 p hp
    · rename_i z hd
      have ez : x = .str z := by
        cases x <;> first
          | exact hd
          | (cases hd; done)
          | (unfold deref at hd; dsimp only at hd; split at hd <;> cases hd)
      subst ez
      cases r3
      exact .inr ⟨z, rfl, b4.1, kq3.now m3 (.str _) b4.2⟩
    · exact b4.elim
/-- the name of a built-in -/
theorem bf_boot (f : BF) : bootBuiltins (bfName f) = some (bfVal f) := by
  cases f <;> first
    | (decide +kernel)
    | (rename_i m; cases m <;> decide +kernel)
theorem bf_free (f : BF) : bfName f ∈ freeNames := by
  cases f <;> first
    | decide
    | (rename_i m; cases m <;> decide)
theorem bf_ok (f : BF) : bfName f ≠ "__name__" ∧ (bfName f == ("__debug__" : Str)) = false := by
  cases f <;> first
    | decide
    | (rename_i m; cases m <;> decide)
theorem snd_blt {f : BF} {e : Expr} {es : List Expr} {c : CEs} {p pos : Pos} (st : Site T call k N sc cs true noPn X) (hg : Gl X (bfName f)) (h : PEs T call X noPn (e :: es) c) : Snd T call X noPn (.Call (.Name (bfName f) p) (e :: es) [] pos) (.blt f c) := by
  obtain ⟨hc, hr, _⟩ := st.calm rfl
  have hs := h.star
  have h2 := Bool.and_eq_true_iff.mp (show (noStar e && es.all noStar) = true from hs)
  have fin : ∀ (hid : Addr → Prop) (W : WX), Takes X W → PE X (.Call (.Name (bfName f) p) (e :: es) [] pos) (tCB (lC (mkS T X.K hid) (bfS f)) (lA (mkS T X.K hid) noPn W (wEs T call c))) := fun hid W tk => by
    have cr := call_bfS (S := mkS T X.K hid) rfl st.tk.sys hc st.gd st.un f
    have hm := st.tk.free _ (bf_free f)
    have hb := bf_boot f
    have pa := h.pa (hid := hid) (W := W) tk
    cases f <;> first
      | exact pe_callB cr hg hm hb pa (bf_ok _).1 (bf_ok _).2 (star_cons h2.1) (star_any h2.2)
      | exact pe_callTy cr hg hm hb pa (bf_ok _).1 (bf_ok _).2 (star_cons h2.1) (star_any h2.2)
  refine .of rfl fun hid W tk => PE.weak (fin hid W tk) fun σ H Q h => ?_
  obtain ⟨ρ, μ, Φ, Ψ, s2, hw, kq, kx⟩ := h
  exact lA.bind s2 hw kx fun xs μ1 vxs H1 g s3 r kx1 b => ⟨xs, μ1, Φ, s3.mm, r, b, kq.grow g⟩
end
end Fk
end
section
set_option maxHeartbeats 4000000
namespace Fk
open PySem PySem.Spec PyProof.Rows L2
section
variable {X : Cx}
/-- d.update(e), both dicts of ints and texts -/
def rUpd : V → List V → Hp → VK → Prop := fun x vs H Q => ∃ (a b : Addr) (kvs more : List (Key × V)), x = .ref a ∧ vs = [.ref b] ∧ a ≠ b ∧ H a = some (.dK kvs) ∧ H b = some (.dK more) ∧ kvs.length + more.length ≤ sizeLine ∧ Q .non (upd H a (.dK (mergeK kvs more)))
theorem mt_update : MtR X "dict.update" rUpd := by
  intro pins s σ H x vs v us Q I rx rv h
  obtain ⟨a, b, kvs, more, rfl, rfl, hne, ha, hb, hz, q⟩ := h
  cases rx
  obtain ⟨u, rfl, ru⟩ := rv.one
  cases ru
  obtain ⟨z1, hd1, vs1, rel1, dd1⟩ := dk_of I.hok ha
  obtain ⟨z2, hd2, vs2, rel2, dd2⟩ := dk_of I.hok hb
  refine call_meetsIn PySem.F.slot_dict_update dd1.typeIs PySem.F.entry_dict_update (PySem.F.args_dict_update_2 _ _) (meets_dict_update (mixKind X.prog X.w) a b hne hd2)
    ⟨vs1, vs2, dd1, dd2, (by rw [← rel1.length, ← rel2.length]; exact hz), fun h' dd' _ hs => ?_⟩
  have hl : (mergeK kvs more).length ≤ sizeLine := Nat.le_trans (length_mergeK more kvs) hz
  have he : ∃ q, h'.get? a = some q := let ⟨q, _, _, hq, _⟩ := dd'; ⟨q, hq⟩
  exact ⟨.non, _, d_write (t' := s.toks) I (by rw [ha]; exact True.intro) hs he (dk_new hl hd1 (rel2.merge rel1) dd'), rfl, q⟩
end
theorem mergeK_nodup : ∀ (more kvs : List (Key × V)), ((kvs ++ more).map (·.1)).Nodup → mergeK kvs more = kvs ++ more
  | [], kvs, _ => by simp [mergeK]
  | p :: r, kvs, h => by
    have h1 : putK kvs p.1 p.2 = kvs ++ [p] := by
      unfold putK
      rw [if_neg]
      intro z
      obtain ⟨q, hq, e⟩ := List.any_eq_true.mp z
      have e : q.1 = p.1 := of_decide_eq_true e
      rw [List.map_append, List.nodup_append] at h
      exact h.2.2 q.1 (List.mem_map_of_mem hq) p.1 (List.mem_map_of_mem List.mem_cons_self) e
    show mergeK (putK kvs p.1 p.2) r = _
    rw [h1, mergeK_nodup r (kvs ++ [p]) (by simpa using h)]
    simp
section
variable {T : Tbl} {call : ACall} {k : Nat} {N : List Str} {sc cs : Scope} {X : Cx} {hid : Addr → Prop} {W : WX} {μ : Mem} {H : Hp} {cm : Bool} {Pn : PX}
def bmT : BM → String
  | .append => "list"
  | .clear => "list"
  | .update => "dict"
  | .split _ => "str"
  | .join => "str"
  | .removep => "str"
  | .pop => "list"
def bmId : BM → String
  | .append => "list.append"
  | .clear => "list.clear"
  | .update => "dict.update"
  | .split _ => "str.split"
  | .join => "str.join"
  | .removep => "str.removeprefix"
  | .pop => "list.pop"
theorem Dats.strs {S : Sg} {μ : Mem} {H : Hp} : ∀ {ds : List D} {vs : List V} {ns : List Str}, Dats S μ H vs ds → allStr ds = some ns → vs = ns.map V.str
  | [], _, _, .nil, h => by cases h; rfl
  | d :: ds, _, ns, .cons r t, h => by
    cases d <;> first
      | (cases h; done)
      | skip
    rename_i b
    cases r
    have h2 : (allStr ds).map (b :: ·) = some ns := h
    cases e : allStr ds with
    | none => rw [e] at h2; cases h2
    | some ms =>
      rw [e] at h2
      cases h2
      rw [Dats.strs t e]
      rfl
theorem dats_strs {S : Sg} {μ : Mem} {H : Hp} {ns : List Str} : Dats S μ H (ns.map V.str) (ns.map D.str) := by
  induction ns with
  | nil => exact .nil
  | cons n ns ih => exact .cons (.str n) ih
theorem bmTy_v {f : BF} : True := trivial
theorem zip_map {α β : Type} : ∀ {ks : List α} {ds : List β}, ks.length = ds.length → (ks.zip ds).map (·.1) = ks ∧ (ks.zip ds).map (·.2) = ds
  | [], [], _ => ⟨rfl, rfl⟩
  | a :: ks, b :: ds, h => by
    obtain ⟨h1, h2⟩ := zip_map (ks := ks) (ds := ds) (by simpa using h)
    exact ⟨congrArg (a :: ·) h1, congrArg (b :: ·) h2⟩
  | [], _ :: _, h => by simp at h
  | _ :: _, [], h => by simp at h
theorem kv_zip {kvs : List (Key × V)} : kvs = (kvs.map (·.1)).zip (kvs.map (·.2)) := by
  induction kvs with
  | nil => rfl
  | cons p r ih => simp [← ih]
theorem Dats.dropLast {S : Sg} {μ : Mem} {H : Hp} : ∀ {vs : List V} {ds : List D}, Dats S μ H vs ds → Dats S μ H vs.dropLast ds.dropLast
  | _, _, .nil => .nil
  | _, _, .cons r .nil => .nil
  | _, _, .cons r (.cons r2 t) => .cons r (Dats.dropLast (.cons r2 t))
def bmR (T : Tbl) (K : PySem.W.Frag) (hid : Addr → Prop) (f : BM) : V → List V → Hp → VK → Prop := fun v vs H Q => ∃ x xs μ Φ, Mm (mkS T K hid) μ H ∧ Dat (mkS T K hid) μ H v x ∧ Dats (mkS T K hid) μ H vs xs ∧ bmS f x xs μ Φ ∧ KQ (mkS T K hid) μ H Φ Q
/-- the method by values -/
theorem mt_bm (f : BM) : MtR X (bmId f) (bmR T X.K hid f) := by
  intro pins s σ H v vs u us Q I rv rvs h
  obtain ⟨x, xs, μ, Φ, mm, dx, dxs, h, kq⟩ := h
  unfold bmS at h
  split at h
  · rename_i a
    cases dx
    split at h
    · rename_i y ds ha
      obtain ⟨w, rfl, dw⟩ := dxs.one
      obtain ⟨ws, h1, r⟩ := mm.ok a _ ha
      refine mt_append pins s σ H _ _ u us Q I rv rvs ⟨a, ws, w, rfl, rfl, h1, by rw [r.length]; exact h.1, ?_⟩
      have gw : Grow μ H (mset μ a (.lst (ds ++ [y]))) (upd H a (.lst (ws ++ [w]))) := Grow.write ha
      exact kq _ _ _ _ gw (mm.write ha ⟨_, upd_same, (r.append (.cons dw .nil)).grow gw⟩) .non h.2
    · rename_i ds ha
      cases dxs
      obtain ⟨ws, h1, r⟩ := mm.ok a _ ha
      refine mt_clear pins s σ H _ _ u us Q I rv rvs ⟨a, ws, rfl, rfl, h1, ?_⟩
      have gw : Grow μ H (mset μ a (.lst [])) (upd H a (.lst [])) := Grow.write ha
      exact kq _ _ _ _ gw (mm.write ha ⟨_, upd_same, .nil⟩) .non h
    · rename_i ds ha
      cases dxs
      obtain ⟨ws, h1, r⟩ := mm.ok a _ ha
      split at h
      · rename_i d hd
        have hd2 : ds[ds.length - 1]? = some d := by rw [← List.getLast?_eq_getElem?]; exact hd
        obtain ⟨v, hv, rv2⟩ := r.get' hd2
        refine mt_pop pins s σ H _ _ u us Q I rv rvs ⟨a, ws, v, rfl, rfl, h1, by rw [r.length]; exact hv, ?_⟩
        have gw : Grow μ H (mset μ a (.lst ds.dropLast)) (upd H a (.lst ws.dropLast)) := Grow.write ha
        exact kq _ _ _ _ gw (mm.write ha ⟨_, upd_same, (r.dropLast).grow gw⟩) (rv2.grow gw) h
      · exact h.elim
    · rename_i ks ds ks0 ds0 ha
      obtain ⟨w, rfl, dw⟩ := dxs.one
      obtain ⟨hnd, hl1, hl2, hl3, hq⟩ := h
      obtain ⟨kvs0, vs0, h1, h2, h3, r⟩ := mm.ok a _ ha
      cases dw with
      | @dict b kvs _ vs _ m n hb e1 e2 r2 =>
        have hne : a ≠ b := fun z => by subst z; rw [ha] at m; cases m
        have hnk : ((kvs0 ++ kvs).map (·.1)).Nodup := by rw [List.map_append, h2, e1]; exact hnd
        refine mt_update pins s σ H _ _ u us Q I rv rvs ⟨a, b, kvs0, kvs, rfl, rfl, hne, h1, hb, ?_, ?_⟩
        · have q1 : kvs0.length = ks0.length := by rw [← h2, List.length_map]
          have q2 : kvs.length = ks.length := by rw [← e1, List.length_map]
          rw [List.length_append] at hl3
          have := line1000
          omega
        · rw [mergeK_nodup _ _ hnk]
          have gw : Grow μ H (mset μ a (.dK (ks0 ++ ks) (ds0 ++ ds))) (upd H a (.dK (kvs0 ++ kvs))) := Grow.write ha
          exact kq _ _ _ _ gw (mm.write ha ⟨_, vs0 ++ vs, upd_same, by rw [List.map_append, h2, e1], by rw [List.map_append, h3, e2], (r.append r2).grow gw⟩) .non hq
    · exact h.elim
  · cases dx
    split at h
    · obtain ⟨w, rfl, dw⟩ := dxs.one
      cases dw
      exact mt_split pins s σ H _ _ u us Q I rv rvs ⟨_, _, rfl, rfl, h.1, h.2.1, fun p hp => newL_ok mm dats_strs h.2.2 kq p hp⟩
    · split at h
      · rename_i ys hy
        obtain ⟨w, rfl, dw⟩ := dxs.one
        obtain ⟨ds, hd, hs⟩ := Option.bind_eq_some_iff.mp hy
        obtain ⟨p, ws, rfl, sq, rr⟩ := seq_sq mm dw hd
        have e := rr.strs hs
        subst e
        exact mt_join pins s σ H _ _ u us Q I rv rvs ⟨_, p, ys, rfl, rfl, sq, h.1, kq.now mm (.str _) h.2⟩
      · exact h.elim
    · obtain ⟨w, rfl, dw⟩ := dxs.one
      cases dw
      exact mt_removeprefix pins s σ H _ _ u us Q I rv rvs ⟨_, _, rfl, rfl, h.1, kq.now mm (.str _) h.2⟩
    · exact h.elim
  · exact h.elim
theorem bmTy_is {f : BM} {x : D} {v : V} (mm : Mm (mkS T X.K hid) μ H) (r : Dat (mkS T X.K hid) μ H v x) (h : bmTy f μ x) : tyV X.K (bmT f) v H := by
  unfold bmTy at h
  split at h
  · rename_i a
    cases r
    split at h
    · rename_i ds ha
      obtain ⟨ws, h1, _⟩ := mm.ok a _ ha
      exact .inl ⟨rfl, ws, SqL.of h1⟩
    · rename_i ds ha
      obtain ⟨ws, h1, _⟩ := mm.ok a _ ha
      exact .inl ⟨rfl, ws, SqL.of h1⟩
    · rename_i ds ha
      obtain ⟨ws, h1, _⟩ := mm.ok a _ ha
      exact .inl ⟨rfl, ws, SqL.of h1⟩
    · rename_i ks ds ha
      obtain ⟨kvs, vs, h1, _⟩ := mm.ok a _ ha
      exact .inr (.inr (.inl ⟨rfl, .inl ⟨kvs, h1⟩⟩))
    · exact h.elim
  · cases r
    split at h <;> first
      | rfl
      | exact h.elim
  · exact h.elim
theorem snd_bm {f : BM} {o : Expr} {es : List Expr} {co : CE} {c : CEs} {apos pos : Pos} (ho : Snd T call X Pn o co) (h : PEs T call X Pn es c) (h1 : noSup o = true) (h3 : decide (es.length + 0 + 0 < 30) = true) (h4 : (apos.endLine == pos.line) = true) :
    Snd T call X Pn (.Call (.Attribute o (bmName f) apos) es [] pos) (.bm f co c) := by
  have hs := h.star
  have go : ∀ (hid : Addr → Prop) (W : WX), Takes X W → PE X (.Call (.Attribute o (bmName f) apos) es [] pos) (tBM X.K (bmT f) (bmR T X.K hid f)
      (lE (mkS T X.K hid) Pn W (wE T call co)) (lA (mkS T X.K hid) Pn W (wEs T call c))) := fun hid W tk => by
    have hm := mt_bm (T := T) (X := X) (hid := hid) f
    have po := ho.pe hid W tk
    have pa := h.pa (hid := hid) (W := W) tk
    cases es with
    | nil =>
      refine PE.weak (t := tBM0 X.K (bmT f) (bmR T X.K hid f) (lE (mkS T X.K hid) Pn W (wE T call co))) (by
        cases f
        · exact pe_bm0 F.plainAttrs_list F.slot_list_append F.type_list_append hm po (base_of h1) h4
        · exact pe_bm0 F.plainAttrs_list F.slot_list_clear F.type_list_clear hm po (base_of h1) h4
        · exact pe_bm0 F.plainAttrs_dict F.slot_dict_update F.type_dict_update hm po (base_of h1) h4
        · exact pe_bm0 F.plainAttrs_str F.slot_str_split F.type_str_split hm po (base_of h1) h4
        · exact pe_bm0 F.plainAttrs_str F.slot_str_join F.type_str_join hm po (base_of h1) h4
        · exact pe_bm0 F.plainAttrs_str F.slot_str_removeprefix F.type_str_removeprefix hm po (base_of h1) h4
        · exact pe_bm0 F.plainAttrs_list F.slot_list_pop F.type_list_pop hm po (base_of h1) h4) fun σ H Q q => ?_
      obtain ⟨ρ, μ, Φ, Ψ, s2, hw, kq, kx⟩ := q
      refine ⟨ρ, μ, Φ, Ψ, s2, hw, fun d μ' v H' g m r b => ?_, kx⟩
      obtain ⟨ty, ρ2, μ2, Φ2, Ψ2, s3, hw2, ka, kx2⟩ := kq d μ' v H' g m r b
      exact ⟨ty, ka [] μ2 [] H' (Grow.refl _ _) s3.mm .nil (h.nil0 rfl _ _ _ _ hw2)⟩
    | cons e es =>
      have h2 := Bool.and_eq_true_iff.mp (show (noStar e && es.all noStar) = true from hs)
      have hf : ((backTo pos (starEach (e :: es) X.env)).all (fun x => !x.1) && (backToKw pos (keywordEach [] X.env)).all (fun x => x.1.isSome) && decide ((e :: es).length + ([] : List Keyword).length + (if ([] : List Keyword).isEmpty then 0 else 1) < 30)) = true := by
        rw [star_all hs]
        show ((true && true) && decide ((e :: es).length + 0 + 0 < 30)) = true
        rw [h3] <;> rfl
      cases f
      · exact pe_bm F.plainAttrs_list F.slot_list_append F.type_list_append hm po pa (base_of h1) hf h4 (star_cons h2.1) (star_any h2.2)
      · exact pe_bm F.plainAttrs_list F.slot_list_clear F.type_list_clear hm po pa (base_of h1) hf h4 (star_cons h2.1) (star_any h2.2)
      · exact pe_bm F.plainAttrs_dict F.slot_dict_update F.type_dict_update hm po pa (base_of h1) hf h4 (star_cons h2.1) (star_any h2.2)
      · exact pe_bm F.plainAttrs_str F.slot_str_split F.type_str_split hm po pa (base_of h1) hf h4 (star_cons h2.1) (star_any h2.2)
      · exact pe_bm F.plainAttrs_str F.slot_str_join F.type_str_join hm po pa (base_of h1) hf h4 (star_cons h2.1) (star_any h2.2)
      · exact pe_bm F.plainAttrs_str F.slot_str_removeprefix F.type_str_removeprefix hm po pa (base_of h1) hf h4 (star_cons h2.1) (star_any h2.2)
      · exact pe_bm F.plainAttrs_list F.slot_list_pop F.type_list_pop hm po pa (base_of h1) hf h4 (star_cons h2.1) (star_any h2.2)
  refine .of rfl fun hid W tk => PE.weak (go hid W tk) fun σ H Q q => ?_
  obtain ⟨ρ, μ, Φ, Ψ, s2, hw, kq, kx⟩ := q
  refine lE.bind s2 hw kx fun x μ1 vx H1 g s3 r kx1 b => ⟨bmTy_is s3.mm r b.1, ?_⟩
  exact lA.bind s3 b.2 kx1 fun xs μ2 vxs H2 g2 s4 rs kx2 b2 => ⟨x, xs, μ2, Φ, s4.mm, r.grow g2, rs, b2, (kq.grow g).grow g2⟩
end
end Fk
end
section
set_option maxHeartbeats 4000000
/-! zip of a list, a tuple or a text with another such. -/
namespace Fk
open PySem PySem.Spec PyProof.Rows L2
inductive ZS where
  | lst (a : Addr) (xs : List V) | tup (a : Addr) (xs : List V) | str (x : Str)
namespace ZS
def val : ZS → V
  | lst a _ => .ref a
  | tup a _ => .ref a
  | str x => .str x
def ok (K : PySem.W.Frag) (H : Hp) : ZS → Prop
  | lst a xs => SqL K H a xs
  | tup a xs => SqT K H a xs
  | str _ => True
def items : ZS → List V
  | lst _ xs => xs
  | tup _ xs => xs
  | str x => x.cps.toList.map fun c => V.str ⟨#[c]⟩
def ad (d : Addr) : ZS → Addr
  | lst a _ => a
  | tup a _ => a
  | str _ => d
/-- its iterator at it, so many items taken -/
def st (t : Tok) (it : Addr) (i : Nat) (h : Heap) : ZS → Prop
  | lst a _ => h.IsListIter it a i
  | tup a _ => h.IsTupleIter it a i
  | str x => h.IsStrIter it (strIterType x) x t i
theorem st_obj {t : Tok} {it : Addr} {i : Nat} {h : Heap} {z : ZS} (s : z.st t it i h) : ∃ o, h.get? it = some o ∧ ∀ v, o.data ≠ .cell v := by
  cases z with
  | lst a xs =>
    obtain ⟨o, e, _, d⟩ := s
    exact ⟨o, e, fun v q => by rw [d] at q; cases q⟩
  | tup a xs =>
    obtain ⟨o, e, _, d⟩ := s
    exact ⟨o, e, fun v q => by rw [d] at q; cases q⟩
  | str x =>
    obtain ⟨o, e, _, d⟩ := s
    exact ⟨o, e, fun v q => by rw [d] at q; cases q⟩
theorem st_keep {t : Tok} {it : Addr} {i : Nat} {h h' : Heap} {z : ZS} (s : z.st t it i h) (k : ∀ o, h.get? it = some o → h'.get? it = some o) : z.st t it i h' := by
  cases z with
  | lst a xs => exact Heap.IsListIter.at s fun o q => k o q
  | tup a xs => exact Heap.IsTupleIter.at s fun o q => k o q
  | str x =>
    obtain ⟨o, e, r⟩ := s
    exact ⟨o, k o e, r⟩
theorem draws {X : Cx} {A : Around} {pins : List (Addr × Obj)} {σ : L2.St} {H : Hp} {s : Shared} {t : Tok} {it : Addr} {i : Nat} {d : Addr} {z : ZS} (hh : A.handled = none) (I : Inv X pins σ H s) (o : z.ok X.K H) (q : z.st t it i s.heap) (hne : z.ad d ≠ it) :
    ∃ fp n P St, Draws X.prog X.w A it fp n P St ∧ n = z.items.length ∧ (∀ j v, P j v → ∃ x, z.items[j]? = some x ∧ RelV x v) ∧ St i s.heap ∧ (∀ j h, St j h → z.st t it j h) ∧ it ∈ fp ∧ ∀ c ∈ fp, c = it ∨ c = z.ad d := by
  cases z with
  | lst a xs =>
    obtain ⟨its, rv, p, _⟩ := I.list o
    refine ⟨_, _, _, _, Draws.list hh it a hne its.toArray, (by show its.toArray.size = xs.length; rw [List.size_toArray, rv.length]), fun j v e => ?_, ⟨q, p.isList⟩, fun j h y => y.1, by simp, fun c hc => (show c = it ∨ c = a from by simpa using hc)⟩
    have e2 : its[j]? = some v := by simpa using e
    have hl := rv.length
    have hj : j < xs.length := by rw [hl]; exact (List.getElem?_eq_some_iff.mp e2).1
    obtain ⟨u, hu, ru⟩ := rv.get (List.getElem?_eq_getElem hj)
    rw [e2] at hu
    cases hu
    exact ⟨xs[j], List.getElem?_eq_getElem hj, ru⟩
  | tup a xs =>
    obtain ⟨its, rv, p, _⟩ := I.tuple o
    refine ⟨_, _, _, _, Draws.tuple hh it a hne its.toArray, (by show its.toArray.size = xs.length; rw [List.size_toArray, rv.length]), fun j v e => ?_, ⟨q, p⟩, fun j h y => y.1, by simp, fun c hc => (show c = it ∨ c = a from by simpa using hc)⟩
    have e2 : its[j]? = some v := by simpa using e
    have hl := rv.length
    have hj : j < xs.length := by rw [hl]; exact (List.getElem?_eq_some_iff.mp e2).1
    obtain ⟨u, hu, ru⟩ := rv.get (List.getElem?_eq_getElem hj)
    rw [e2] at hu
    cases hu
    exact ⟨xs[j], List.getElem?_eq_getElem hj, ru⟩
  | str x =>
    refine ⟨_, _, _, _, Draws.text hh it x t, by simp [items], fun j v e => ?_, q, fun j h y => y, by simp, fun c hc => .inl (by simpa using hc)⟩
    obtain ⟨c, u, e1, rfl⟩ := e
    exact ⟨.str ⟨#[c]⟩, by simp [items, e1], ⟨u, rfl⟩⟩
end ZS
/-- a new pair at each turn, as far as the shorter one goes -/
def Itzz (K : PySem.W.Frag) (a b : ZS) : It :=
  ⟨fun i H => a.ok K H ∧ b.ok K H ∧ i < a.items.length ∧ i < b.items.length,
   fun i H v H' => ∃ T x y, v = .ref T ∧ H T = none ∧ H' = upd H T (.tup [x, y]) ∧ a.items[i]? = some x ∧ b.items[i]? = some y,
   fun i H => a.ok K H ∧ b.ok K H ∧ i = min a.items.length b.items.length⟩
theorem zsep {z TI TO i1 i2 l1 l2 : Addr} {fp1 fp2 : List Addr} (D : ZipApart z TI TO i1 i2 l1 l2) (m1 : i1 ∈ fp1) (m2 : i2 ∈ fp2) (s1 : ∀ c ∈ fp1, c = i1 ∨ c = l1) (s2 : ∀ c ∈ fp2, c = i2 ∨ c = l2) : ZipSep2 z TI TO i1 i2 fp1 fp2 where
  TIz := D.TIz
  TOz := D.TOz
  TITO := D.TITO
  TIi1 := D.TIi1
  mem1 := m1
  zf1 := fun h => (s1 _ h).elim (fun e => D.i1z e.symm) fun e => D.l1z e.symm
  Tf1 := fun h => (s1 _ h).elim (fun e => D.TOi1 e) fun e => D.l1TO e.symm
  TIi2 := D.TIi2
  mem2 := m2
  zf2 := fun h => (s2 _ h).elim (fun e => D.i2z e.symm) fun e => D.l2z e.symm
  Tf2 := fun h => (s2 _ h).elim (fun e => D.TOi2 e) fun e => D.l2TO e.symm
  sep1_2 := fun h => (s2 _ h).elim (fun e => D.i12 e) fun e => D.l2i1 e.symm
  sep2_1 := fun h => (s1 _ h).elim (fun e => D.i12 e.symm) fun e => D.l1i2 e.symm
theorem turn_zz {P : Program} {w : World} {K : PySem.W.Frag} {elts : List Expr} {kk : Nat} {tpos : Pos} {a b : ZS} {t1 t2 : Tok} {z TI TO i1 i2 : Addr} (D : ZipApart z TI TO i1 i2 (a.ad TI) (b.ad TI)) :
    Turn P w K (.Tuple elts kk tpos) (Itzz K a b) [z, TI, TO, i1, i2] z (fun i h => IsZip h z TI TO .none ∧ IsTupOf2 h TI (.ref i1) (.ref i2) ∧ (∃ x y, IsTupOf2 h TO x y) ∧ a.st t1 i1 i h ∧ b.st t2 i2 i h) where
  mem := by simp
  obj := fun i h st c hc => by
    obtain ⟨hz, hTI, ⟨x, y, hTO⟩, h1, h2⟩ := st
    have e' : c = z ∨ c = TI ∨ c = TO ∨ c = i1 ∨ c = i2 := by simpa using hc
    rcases e' with q | q | q | q | q
    · rw [q]; exact ⟨_, hz, fun v q => nomatch q⟩
    · rw [q]; exact ⟨_, hTI, fun v q => nomatch q⟩
    · rw [q]; exact ⟨_, hTO, fun v q => nomatch q⟩
    · rw [q]; exact ZS.st_obj h1
    · rw [q]; exact ZS.st_obj h2
  keep := fun i h h' st k => by
    obtain ⟨hz, hTI, ⟨x, y, hTO⟩, h1, h2⟩ := st
    exact ⟨k z (by simp) _ hz, k TI (by simp) _ hTI, ⟨x, y, k TO (by simp) _ hTO⟩, ZS.st_keep h1 fun o q => k i1 (by simp) o q, ZS.st_keep h2 fun o q => k i2 (by simp) o q⟩
  item := by
    intro X hP hw hK hc i pins s σ H E I hf st hg
    subst hP hw hK
    obtain ⟨hz, hTI, ⟨x0, y0, hTO⟩, h1, h2⟩ := st
    obtain ⟨ok1, ok2, hl1, hl2⟩ := hg
    have hh : X.A.in1.handled = none := I.ok.hd hc
    obtain ⟨fp1, n1, P1, St1, D1, en1, v1, s1, b1, m1, f1⟩ := ZS.draws (d := TI) hh I ok1 h1 D.l1i1
    obtain ⟨fp2, n2, P2, St2, D2, en2, v2, s2, b2, m2, f2⟩ := ZS.draws (d := TI) hh I ok2 h2 D.l2i2
    have hzl : z < s.heap.objs.size := Heap.lt_size hz
    refine wpAny_pyNext_zipD2_item (zsep D m1 m2 f1 f2) D1 D2 hz hTI hTO s1 s2 (by rw [en1]; exact hl1) (by rw [en2]; exact hl2) fun u1 u2 h' tk p1 p2 z' TO' st1' st2' hT hsz hk => ?_
    obtain ⟨x, hx, rx⟩ := v1 i u1 p1
    obtain ⟨y, hy, ry⟩ := v2 i u2 p2
    refine ⟨_, rfl, wpAny_letOwnedTupleGo_zip (s := { s with heap := h', toks := tk }) z' fun h'' z'' sb => ?_⟩
    have hT2 : h''.get? s.heap.objs.size = some { cls := .type "tuple", data := .seq #[u1, u2] } := (sb.2 _ (Nat.ne_of_gt hzl)).trans hT
    have new : ObjOk X.prog X.w (upd H s.heap.objs.size (.tup [x, y])) h'' s.heap.objs.size (.tup [x, y]) :=
      ⟨by show 2 ≤ sizeLine; decide, [u1, u2], .cons rx (.cons ry .nil), ⟨_, hT2, rfl, _, rfl⟩⟩
    have I1 : Inv X pins σ (upd H s.heap.objs.size (.tup [x, y])) { s with heap := h'', toks := tk } :=
      I.turnedNew (t' := tk) (ch := [z, TI, TO, i1, i2]) (fun c o hb q => (sb.2 c (fun q' => hb (by simp [q']))).trans (hk c o (fun q' => hb (by simp [q'])) (fun q' => hb (by simp [q'])) (fun q' => hb (by simp [q'])) (fun q' => hb (by simp [q'])) q)) hf (Nat.le_refl _) new
    refine ⟨.ref s.heap.objs.size, _, I1, rfl, ⟨_, x, y, rfl, I.hok.fresh (Nat.le_refl _), rfl, hx, hy⟩, ⟨z'', ?_, ⟨u1, u2, ?_⟩, ?_, ?_⟩, fun c hcm => ?_⟩
    · exact (sb.2 _ D.TIz).trans (hk _ _ D.TIz D.TITO D.TIi1 D.TIi2 hTI)
    · exact (sb.2 _ D.TOz).trans TO'
    · exact ZS.st_keep (b1 _ _ st1') fun o q => (sb.2 _ D.i1z).trans q
    · exact ZS.st_keep (b2 _ _ st2') fun o q => (sb.2 _ D.i2z).trans q
    · have hlt : c < s.heap.objs.size := by
        have e' : c = z ∨ c = TI ∨ c = TO ∨ c = i1 ∨ c = i2 := by simpa using hcm
        rcases e' with q | q | q | q | q
        · rw [q]; exact hzl
        · rw [q]; exact Heap.lt_size hTI
        · rw [q]; exact Heap.lt_size hTO
        · rw [q]; obtain ⟨_, e1, _⟩ := ZS.st_obj h1; exact Heap.lt_size e1
        · rw [q]; obtain ⟨_, e2, _⟩ := ZS.st_obj h2; exact Heap.lt_size e2
      rw [upd_ne (Nat.ne_of_lt hlt)]
      exact (hf c hcm).1
  done := by
    intro X hP hw hK hc i pins s σ H E I hf st hg
    subst hP hw hK
    obtain ⟨hz, hTI, ⟨x0, y0, hTO⟩, h1, h2⟩ := st
    obtain ⟨ok1, ok2, hi⟩ := hg
    have hh : X.A.in1.handled = none := I.ok.hd hc
    obtain ⟨fp1, n1, P1, St1, D1, en1, v1, s1, b1, m1, f1⟩ := ZS.draws (d := TI) hh I ok1 h1 D.l1i1
    obtain ⟨fp2, n2, P2, St2, D2, en2, v2, s2, b2, m2, f2⟩ := ZS.draws (d := TI) hh I ok2 h2 D.l2i2
    exact wpAny_pyNext_zipD2_end (zsep D m1 m2 f1 f2) D1 D2 hz hTI hTO s1 s2 (by omega) (by omega) (by omega) fun h' tk hk => ⟨rfl, I.turnedL (t' := tk) (ch := [z, TI, TO, i1, i2]) (fun c o hb q =>
      hk c o (fun q' => hb (by simp [q'])) (fun q' => hb (by simp [q'])) (fun q' => hb (by simp [q'])) (fun q' => hb (by simp [q'])) q) hf⟩
  self := fun A i s Q E st h => wpAny_pyIter_zip st.1 h
/-- a side begins -/
theorem ZS.begins {X : Cx} {pins : List (Addr × Obj)} {σ : L2.St} {H : Hp} {s : Shared} {z : ZS} {u : Value} (I : Inv X pins σ H s) (o : z.ok X.K H) (r : RelV z.val u) :
    ∃ (ob : Obj) (Hs : Heap → Prop) (t : Tok), Begins u ob Hs ∧ Hs s.heap ∧ (∀ h it, h.get? it = some ob → z.st t it 0 h) ∧ ∀ d, d < s.heap.objs.size + 5 → z.ad d < s.heap.objs.size ∨ z.ad d = d := by
  cases z with
  | lst a xs =>
    obtain ⟨its, rv, p, _⟩ := I.list o
    cases r
    exact ⟨_, _, 0, begins_list a its.toArray, p.isList, fun h it e => ⟨_, e, rfl, rfl⟩, fun d _ => .inl p.lt⟩
  | tup a xs =>
    obtain ⟨its, rv, p, _⟩ := I.tuple o
    cases r
    obtain ⟨ob, e, _⟩ := id p
    exact ⟨_, _, 0, begins_tuple a its.toArray, p, fun h it e => ⟨_, e, rfl, rfl⟩, fun d _ => .inl (Heap.lt_size e)⟩
  | str x =>
    obtain ⟨t, rfl⟩ := r
    exact ⟨_, _, t, begins_text x t, trivial, fun h it e => ⟨_, e, rfl, rfl⟩, fun d _ => .inr rfl⟩
theorem neA {a b : Nat} (h : a ≠ b) : @Ne Addr a b := h
theorem apart_of (n l1 l2 : Nat) (h1 : l1 < n ∨ l1 = n + 2) (h2 : l2 < n ∨ l2 = n + 2) : ZipApart (n + 4) (n + 2) (n + 3) n (n + 1) l1 l2 := by
  constructor <;> (refine neA ?_; omega)
def iZz (K : PySem.W.Frag) (ta : TA) : TI := fun σ H R => ta σ H fun vs H1 => ∃ a b : ZS, vs = [a.val, b.val] ∧ a.ok K H1 ∧ b.ok K H1 ∧ R (Itzz K a b) H1
theorem pi_zz {X : Cx} {e e2 : Expr} {ta : TA} {p pos tpos : Pos} {elts : List Expr} {kk : Nat} (hg : Gl X "zip") (hm : X.mg "zip" = none) (ha : PA X [e, e2] ta) (hs : starEach [e, e2] X.env = (false, eval e X.env) :: starEach [e2] X.env) (hpl : (backTo pos (starEach [e2] X.env)).any (·.1) = false) :
    PI X (.Tuple elts kk tpos) (.Call (.Name "zip" p) [e, e2] [] pos) (iZz X.K ta) := by
  refine ⟨fun pins s σ H R I h => ?_⟩
  refine Call_ (ld_blt I hg hm PyProof.Rows.boot_zip (PyProof.Rows.callWith_type1 (thn (ha.run pos pins s σ H _ I h) fun us s1 ⟨vs, H1, I1, r1, q1⟩ => ?_) hs hpl))
  obtain ⟨a, b, ex, ok1, ok2, q⟩ := q1
  subst ex
  obtain ⟨u, v, rfl, ru, rv⟩ := vals2 r1
  obtain ⟨o1, Hs1, t1, B1, hb1, st1, l1⟩ := ZS.begins I1 ok1 ru
  obtain ⟨o2, Hs2, t2, B2, hb2, st2, l2⟩ := ZS.begins I1 ok2 rv
  have k1 := l1 (s1.heap.objs.size + 2) (by omega)
  have k2 := l2 (s1.heap.objs.size + 2) (by omega)
  have ap : ZipApart (s1.heap.objs.size + 4) (s1.heap.objs.size + 2) (s1.heap.objs.size + 3) s1.heap.objs.size (s1.heap.objs.size + 1) (a.ad (s1.heap.objs.size + 2)) (b.ad (s1.heap.objs.size + 2)) := by
    exact apart_of _ _ _ k1 k2
  refine zip_begins2 B1 B2 hb1 hb2 fun h' hz hTI hTO g1 g2 hsz hk => wpAny_pyIter_zip hz ?_
  have I2 : Inv X pins σ H1 { s1 with heap := h' } := I1.kept (t' := s1.toks) hk
  have fresh5 : ∀ c, c ∈ [s1.heap.objs.size + 4, s1.heap.objs.size + 2, s1.heap.objs.size + 3, s1.heap.objs.size, s1.heap.objs.size + 1] → FpOk X pins H1 c := fun c hcm => by
    have e' : c = s1.heap.objs.size + 4 ∨ c = s1.heap.objs.size + 2 ∨ c = s1.heap.objs.size + 3 ∨ c = s1.heap.objs.size ∨ c = s1.heap.objs.size + 1 := by simpa using hcm
    have hle : s1.heap.objs.size ≤ c := by
      rcases e' with z | z | z | z | z
      · rw [z]; exact Nat.le_add_right _ _
      · rw [z]; exact Nat.le_add_right _ _
      · rw [z]; exact Nat.le_add_right _ _
      · rw [z]; exact Nat.le_refl _
      · rw [z]; exact Nat.le_add_right _ _
    exact I1.fpOk hle (I1.hok.fresh hle)
  exact ⟨s1.heap.objs.size + 4, [s1.heap.objs.size + 4, s1.heap.objs.size + 2, s1.heap.objs.size + 3, s1.heap.objs.size, s1.heap.objs.size + 1], _, _, H1, rfl, I2, turn_zz (t1 := t1) (t2 := t2) ap, ⟨hz, hTI, ⟨_, _, hTO⟩, st1 _ _ g1, st2 _ _ g2⟩, fresh5, q⟩
end Fk
end
section
set_option maxHeartbeats 4000000
/-! What is being made is hidden; walks. -/
namespace Fk
open PySem PySem.Spec PyProof.Rows L2
section
variable {S : Sg} {μ μ' : Mem} {H H' : Hp} {p : Addr} {Pn : PX} {o u : HO}
theorem XD.hide (hp : H p = none) {dd : Option Addr} {fs : List (Nat × D)} (x : XD S μ H dd fs) : XD (S.hide p) μ H dd fs := by
  cases dd with
  | none => exact x
  | some d =>
    obtain ⟨m, h, ws, e, r⟩ := x
    have nh : ¬ (S.hide p).hid d := fun z => Or.elim z h fun z => by subst z; rw [hp] at e; cases e
    exact ⟨m, nh, ws, e, fun f x q => let ⟨v, h1, h2⟩ := r f x q; ⟨v, h1, h2.hide hp⟩⟩
theorem XD.bare {dd : Option Addr} {fs : List (Nat × D)} (x : XD (S.hide p) μ H dd fs) : XD S μ H dd fs := by
  cases dd with
  | none => exact x
  | some d =>
    obtain ⟨m, h, ws, e, r⟩ := x
    exact ⟨m, fun z => h (.inl z), ws, e, fun f x q => let ⟨v, h1, h2⟩ := r f x q; ⟨v, h1, h2.bare⟩⟩
theorem SDat.hide (hp : H p = none) {v : V} {d : D} (r : SDat S Pn μ H v d) : SDat (S.hide p) Pn μ H v d := by
  cases h : isX d with
  | false => exact .of ((r.dat h).hide hp)
  | true =>
    cases d <;> first
      | (cases h; done)
      | skip
    obtain ⟨a, dd, h1, h2, h3⟩ := r
    exact ⟨a, dd, h1, h2, h3.hide hp⟩
/-- the state, with p hidden, where p has just been laid -/
theorem Mm.hideNew (m : Mm S μ H) (hp : H p = none) : Mm (S.hide p) μ (upd H p o) := by
  have m2 := m.new (o := o) hp
  refine ⟨fun a mo e => ?_, fun a z => ?_⟩
  · have q := m.ok a mo e
    have hds : ∀ vs ds, Dats S μ H vs ds → Dats (S.hide p) μ (upd H p o) vs ds := fun vs ds r => (r.hide hp).grow (Grow.new hp)
    obtain ⟨u0, hu⟩ := q.there
    have e2 : upd H p o a = H a := upd_ne (ne_of_none hu hp)
    cases mo with
    | lst ds => obtain ⟨vs, h1, r⟩ := q; exact ⟨vs, e2.trans h1, hds _ _ r⟩
    | dK ks ds => obtain ⟨kvs, vs, h1, h2, h3, r⟩ := q; exact ⟨kvs, vs, e2.trans h1, h2, h3, hds _ _ r⟩
    | ins c fs =>
      obtain ⟨dx, ws, h1, r⟩ := q
      refine ⟨dx, ws, e2.trans h1, fun f d z => ?_, r.2.1, r.2.2⟩
      obtain ⟨v, h2, h3⟩ := r.1 f d z
      exact ⟨v, h2, (h3.hide hp).grow (Grow.new hp)⟩
  · rcases z with z | z
    · exact m2.hd a z
    · subst z
      exact ⟨m.free hp, o, upd_same⟩
theorem St2.hideNew {ρ : Env} {σ : L2.St} (s : St2 S Pn ρ σ μ H) (hp : H p = none) : St2 (S.hide p) Pn ρ σ μ (upd H p o) :=
  ⟨s.mm.hideNew hp, fun i d e => let ⟨v, h1, h2⟩ := s.sl i d e; ⟨v, h1, (h2.hide hp).grow (Grow.new hp)⟩, s.len⟩
/-- what is made is shown: the object at p written anew, changing no more -/
theorem Dats.bareNew {vs : List V} {ds : List D} (r : Dats (S.hide p) μ H vs ds) : Dats S μ (upd H p o) vs ds := (r.show_ (fun a ha => upd_ne ha) fun _ _ => rfl).bare
/-- .. or still changing -/
theorem Dats.bareNewM {mo : MO} {vs : List V} {ds : List D} (r : Dats (S.hide p) μ H vs ds) : Dats S (mset μ p mo) (upd H p o) vs ds := (r.show_ (fun a ha => upd_ne ha) fun _ ha => mset_ne ha).bare
theorem hid_ne {a : Addr} {mo : MO} (m : Mm (S.hide p) μ H) (e : μ a = some mo) : a ≠ p := fun z => by
  subst z
  have := (m.hd a (.inr rfl)).1
  rw [e] at this
  cases this
theorem Mm.bareNew (m : Mm (S.hide p) μ H) : Mm S μ (upd H p o) := by
  refine m.map (S' := S) rfl rfl (fun a mo e => upd_ne (hid_ne m e)) (fun v d r => (r.show_ (fun a ha => upd_ne ha) fun _ _ => rfl).bare) fun a z => ?_
  obtain ⟨h1, q, h2⟩ := m.hd a (.inl z)
  refine ⟨h1, ?_⟩
  by_cases e : a = p
  · subst e
    exact ⟨o, upd_same⟩
  · exact ⟨q, (upd_ne e).trans h2⟩
theorem Mm.bareNewM {mo : MO} (m : Mm (S.hide p) μ H) (hn : ¬ S.hid p) (q : MoOk S (mset μ p mo) (upd H p o) p mo) : Mm S (mset μ p mo) (upd H p o) := by
  refine ⟨fun a mo' e => ?_, fun a z => ?_⟩
  · by_cases ha : a = p
    · subst ha
      rw [mset_same] at e
      cases e
      exact q
    · rw [mset_ne ha] at e
      have y := m.ok a mo' e
      have e2 : upd H p o a = H a := upd_ne ha
      cases mo' with
      | lst ds => obtain ⟨vs, h1, r⟩ := y; exact ⟨vs, e2.trans h1, r.bareNewM⟩
      | dK ks ds => obtain ⟨kvs, vs, h1, h2, h3, r⟩ := y; exact ⟨kvs, vs, e2.trans h1, h2, h3, r.bareNewM⟩
      | ins c fs =>
        obtain ⟨dx, ws, h1, r⟩ := y
        refine ⟨dx, ws, e2.trans h1, fun f d z => ?_, r.2.1, r.2.2⟩
        obtain ⟨v, h2, h3⟩ := r.1 f d z
        exact ⟨v, h2, (h3.show_ (fun a ha => upd_ne ha) fun _ ha => mset_ne ha).bare⟩
  · have ne : a ≠ p := fun e => hn (e ▸ z)
    obtain ⟨h1, y, h2⟩ := m.hd a (.inl z)
    exact ⟨(mset_ne ne).trans h1, y, (upd_ne ne).trans h2⟩
theorem Grow.bareNew (hp : H p = none) (g : Grow μ (upd H p o) μ' H') : Grow μ H μ' (upd H' p u) := fun a q m e => by
  have ne : a ≠ p := ne_of_none e hp
  obtain ⟨h1, h2⟩ := g a q m ((upd_ne ne).trans e)
  exact ⟨(upd_ne ne).trans h1, h2⟩
theorem Grow.bareNewM {mo : MO} (hp : H p = none) (g : Grow μ (upd H p o) μ' H') : Grow μ H (mset μ' p mo) (upd H' p u) := fun a q m e => by
  have ne : a ≠ p := ne_of_none e hp
  obtain ⟨h1, h2⟩ := g a q m ((upd_ne ne).trans e)
  exact ⟨(upd_ne ne).trans h1, (mset_ne ne).trans h2⟩
/-- what raises while p is being made raises outside, too -/
theorem KX.hide {Ψ : AX} {E : XK} (hp : H p = none) (kx : KX S μ H Ψ E) : KX (S.hide p) μ (upd H p o) Ψ E := fun c fs μ' cls dd H' g m x q => by
  have mb : Mm S μ' H' := by
    have np : ∀ {a : Addr} {mo : MO}, μ' a = some mo → a ≠ p := fun {a mo} e z => by
      subst z
      have := (m.hd a (.inr rfl)).1
      rw [e] at this
      cases this
    exact m.map (S' := S) rfl rfl (fun a mo e => rfl) (fun v d r => r.bare) fun a z => m.hd a (.inl z)
  exact kx c fs μ' cls dd H' ((Grow.new hp).trans g) mb ⟨x.cls, x.xd.bare⟩ q
end
section
variable {T : Tbl} {call : ACall} {k : Nat} {N : List Str} {sc cs : Scope} {X : Cx} {hid : Addr → Prop} {W : WX} {μ : Mem} {H : Hp} {cm : Bool} {Pn : PX}
/-- keys as they are written -/
inductive KsAt : List Key → List (Option Expr) → Prop where
  | nil : KsAt [] []
  | int {i : Int} {j : Nat} {p : Pos} {ks : List Key} {es : List (Option Expr)} (t : KsAt ks es) : KsAt (.inl i :: ks) (some (.Constant (.int i) j p) :: es)
  | str {x : Str} {j : Nat} {p : Pos} {ks : List Key} {es : List (Option Expr)} (t : KsAt ks es) : KsAt (.inr x :: ks) (some (.Constant (.str x) j p) :: es)
theorem KsAt.all : ∀ {ks : List Key} {es : List (Option Expr)}, KsAt ks es → es.all (·.isSome) = true ∧ es.length = ks.length
  | _, _, .nil => ⟨rfl, rfl⟩
  | _, _, .int t => ⟨by simpa using t.all.1, congrArg (· + 1) t.all.2⟩
  | _, _, .str t => ⟨by simpa using t.all.1, congrArg (· + 1) t.all.2⟩
/-- .. whatever is hidden -/
def lEx (T : Tbl) (K : PySem.W.Frag) (Pn : PX) (W : WX) (w : AE) : TE := fun σ H Q => ∃ hid, lE (mkS T K hid) Pn W w σ H Q
def lTx (T : Tbl) (K : PySem.W.Frag) (Pn : PX) (W : WX) (w : AT) : TT := fun σ H Q => ∃ hid, lT (mkS T K hid) Pn W w σ H Q
def lHx (T : Tbl) (K : PySem.W.Frag) (Pn : PX) (ow : List Nat) (w : ATg) : TG := fun v σ H Q => ∃ hid, lH (mkS T K hid) Pn ow w v σ H Q
theorem Snd.pex {e : Expr} {c : CE} (h : Snd T call X Pn e c) (tk : Takes X W) : PE X e (lEx T X.K Pn W (wE T call c)) := ⟨fun pins s σ H Q I q => let ⟨hid, q⟩ := q; (h.pe hid W tk).run pins s σ H Q I q⟩
theorem Snd.ptx {e : Expr} {c : CE} (h : Snd T call X Pn e c) (tk : Takes X W) : PT X e (lTx T X.K Pn W (wT T call c)) := ⟨fun pins s σ H Q I q => let ⟨hid, q⟩ := q; (h.pt hid W tk).run pins s σ H Q I q⟩
def pairsT (K : PySem.W.Frag) (Pn : PX) (W : WX) (T : Tbl) (call : ACall) : List Key → CEs → List (TE × TE)
  | k :: ks, .cons c cs => (tC (kV k), lEx T K Pn W (wE T call c)) :: pairsT K Pn W T call ks cs
  | _, _ => []
theorem pps_of (tk : Takes X W) {pos : Pos} : ∀ {ks : List Key} {ke : List (Option Expr)} {es : List Expr} {c : CEs}, KsAt ks ke → PEs T call X Pn es c → ke.length = es.length → PPs X pos ke es (pairsT X.K Pn W T call ks c)
  | _, _, [], .nil, .nil, _, _ => pps_nil
  | _, _, e :: es, .cons c cs, .int t, h, hl => pps_cons pe_int (h.1.1.pex tk) (pps_of tk t h.2 (by simpa using hl))
  | _, _, e :: es, .cons c cs, .str t, h, hl => pps_cons pe_str (h.1.1.pex tk) (pps_of tk t h.2 (by simpa using hl))
  | _, _, _ :: _, _, .nil, _, hl => by simp at hl
  | _, _, [], _, .int _, _, hl => by simp at hl
  | _, _, [], _, .str _, _, hl => by simp at hl
  | _, _, [], .cons _ _, .nil, h, _ => h.elim
  | _, _, _ :: _, .nil, .int _, h, _ => h.elim
  | _, _, _ :: _, .nil, .str _, h, _ => h.elim
def CEs.len : CEs → Nat
  | .nil => 0
  | .cons _ c => c.len + 1
theorem PEs.len : ∀ {es : List Expr} {c : CEs}, PEs T call X Pn es c → c.len = es.length
  | [], .nil, _ => rfl
  | e :: es, .cons c cs, h => congrArg (· + 1) (PEs.len h.2)
  | [], .cons _ _, h => h.elim
  | _ :: _, .nil, h => h.elim
/-- the pairs, one after another -/
theorem pairs_run : ∀ {ks : List Key} {c : CEs} {ρ : Env} {σ : L2.St} {μ : Mem} {H : Hp} {B : List D → Mem → Prop} {Ψ : AX} {R : List (V × V) → Hp → Prop}, c.len = ks.length → St2 (mkS T X.K hid) Pn ρ σ μ H → wEs T call c ρ μ B Ψ → KX (mkS T X.K hid) μ H Ψ (WE W σ) →
    (∀ ds vs μ2 H2, Grow μ H μ2 H2 → St2 (mkS T X.K hid) Pn ρ σ μ2 H2 → Dats (mkS T X.K hid) μ2 H2 vs ds → vs.length = ks.length → B ds μ2 → R ((ks.zip vs).map fun kv => (kV kv.1, kv.2)) H2) → tPairs (pairsT X.K Pn W T call ks c) σ H R
  | [], .nil, ρ, σ, μ, H, B, Ψ, R, _, s, hw, kx, hk => hk [] [] μ H (Grow.refl _ _) s .nil rfl hw
  | k :: ks, .cons c cs, ρ, σ, μ, H, B, Ψ, R, hl, s, hw, kx, hk => by
    show lEx T X.K Pn W (wE T call c) σ H _
    refine ⟨hid, ?_⟩
    refine lE.bind s hw kx fun x μ1 vx H1 g s3 r kx1 b => ?_
    refine pairs_run (ks := ks) (c := cs) (by simpa [CEs.len] using hl) s3 b kx1 fun ds vs μ2 H2 g2 s4 rs hl2 b2 => ?_
    exact hk (x :: ds) (vx :: vs) μ2 H2 (g.trans g2) s4 (.cons (r.grow g2) rs) (by simp [hl2]) b2
  | [], .cons _ _, _, _, _, _, _, _, _, hl, _, _, _, _ => by simp [CEs.len] at hl
  | _ :: _, .nil, _, _, _, _, _, _, _, hl, _, _, _, _ => by simp [CEs.len] at hl
/-- a new dict, its pairs made -/
theorem newK_fin {m : Bool} {q : Addr} {μ μ2 : Mem} {H H2 : Hp} {ks : List Key} {ds : List D} {vs : List V} {Φ : AQ} {Q : VK} (hq : H q = none) (hh : ¬ hid q) (g : Grow μ (upd H q (.dK [])) μ2 H2) (mm : Mm ((mkS T X.K hid).hide q) μ2 H2) (r : Dats ((mkS T X.K hid).hide q) μ2 H2 vs ds) (hlv : vs.length = ks.length)
    (kq : KQ (mkS T X.K hid) μ H Φ Q) (hw : newK m (ks.zip ds) μ2 Φ) : Q (.ref q) (upd H2 q (.dK (ks.zip vs))) := by
  have hld : ds.length = ks.length := by rw [← r.length, hlv]
  have z1 := zip_map (ks := ks) (ds := ds) hld.symm
  have z2 := zip_map (ks := ks) (ds := vs) hlv.symm
  have hqm : μ2 q = none := (mm.hd q (.inr rfl)).1
  unfold newK at hw
  cases m with
  | true =>
    rw [if_pos rfl, z1.1, z1.2] at hw
    exact kq _ _ _ _ (g.bareNewM hq) (mm.bareNewM (mo := .dK ks ds) hh ⟨ks.zip vs, vs, upd_same, z2.1, z2.2, r.bareNewM⟩) (.ref q) (hw q hqm)
  | false =>
    rw [if_neg Bool.false_ne_true, z1.1, z1.2] at hw
    exact kq _ _ _ _ (g.bareNew hq) mm.bareNew (.dict hqm hh upd_same z2.1 z2.2 r.bareNew) hw
/-- {k: v, ..} -/
theorem snd_dct {m : Bool} {ks : List Key} {ke : List (Option Expr)} {es : List Expr} {c : CEs} {p : Pos} (h : PEs T call X Pn es c) (hk : KsAt ks ke) (hl : ke.length = es.length) (hz : ks.length ≤ 15) (hn : ks.Nodup) : Snd T call X Pn (.Dict ke es p) (.dct m ks c) := by
  obtain ⟨ha, hlk⟩ := hk.all
  have hcl : c.len = ks.length := by rw [h.len, ← hl, hlk]
  by_cases h0 : ke = []
  · subst h0
    cases hk
    cases es with
    | cons _ _ => simp at hl
    | nil =>
      cases c with
      | cons _ _ => exact h.elim
      | nil =>
        refine .of rfl fun hid W tk => PE.weak pe_dnewK fun σ H Q h => ?_
        obtain ⟨ρ, μ, Φ, Ψ, s2, hw, kq, kx⟩ := h
        intro q hq
        have hw2 : ([] : List D).length = ([] : List Key).length ∧ newK m (([] : List Key).zip []) μ Φ := hw
        have e : upd H q (.dK []) = upd (upd H q (.dK [])) q (.dK (([] : List Key).zip ([] : List V))) := by
          funext a
          by_cases z : a = q
          · subst z; rw [upd_same, upd_same]; rfl
          · rw [upd_ne z, upd_ne z, upd_ne z]
        rw [e]
        exact newK_fin (ks := []) (ds := []) (vs := []) hq (s2.mm.hids hq) (Grow.refl _ _) (s2.mm.hideNew hq) .nil rfl kq hw2.2
  · refine .of rfl fun hid W tk => PE.weak (pe_disp (pps_of tk hk h hl) ha hl h0 (by rw [hlk]; exact hz)) fun σ H Q h => ?_
    obtain ⟨ρ, μ, Φ, Ψ, s2, hw, kq, kx⟩ := h
    intro q hq
    have hids : ¬ hid q := s2.mm.hids hq
    have hw2 : wEs T call c ρ μ (fun ds μ1 => ds.length = ks.length ∧ newK m (ks.zip ds) μ1 Φ) Ψ := hw
    refine pairs_run (hid := fun a => hid a ∨ a = q) hcl (s2.hideNew hq) hw2 (kx.hide hq) fun ds vs μ2 H2 g s3 r hlv b => ?_
    have hq2 : H2 q = some (.dK []) := (g q _ (s2.mm.free hq) upd_same).1
    have z2 := zip_map (ks := ks) (ds := vs) hlv.symm
    refine ⟨hq2, ks.zip vs, rfl, by rw [List.length_zip, hlv]; omega, ?_⟩
    rw [mergeK_nodup (ks.zip vs) [] (by rw [List.nil_append, z2.1]; exact hn), List.nil_append]
    exact newK_fin hq hids g s3.mm r hlv kq b.2
end
end Fk
end
section
set_option maxHeartbeats 4000000
/-! Targets. -/
namespace Fk
open PySem PySem.Spec PyProof.Rows L2
section
variable {prog : Program} {w : World} {A : Around} {E : Value → Shared → Prop} {s : Shared}
/-- a, *b = a tuple -/
theorem star2 {l : Addr} {items : Array Value} {x : Value} {xs : List Value} {Q : List Value → Shared → Prop} (hl : IsTup s.heap l items) (hh : A.handled = none) (hx : items.toList = x :: xs) (hz : items.size ≤ sizeLine)
    (h : ∀ (g : Heap) tk, (∀ b o, s.heap.get? b = some o → g.get? b = some o) → Q [x, .ref g.objs.size] { s with heap := g.push { cls := .type "list", data := .seq xs.toArray }, toks := tk }) :
    wpAny (model prog w) A (unpackItems (.ref l) 2 (some 1)) Q E s := by
  have hsz : items.size = xs.length + 1 := by
    have e := congrArg List.length hx
    simpa using e
  have hlt : l ≠ s.heap.objs.size := by obtain ⟨o, ho, _⟩ := hl; exact Nat.ne_of_lt (Heap.lt_size ho)
  unfold unpackItems notIterableAtAll
  refine wpAny_bind (wpAny_bind (wpAny_specialOf hl.typeIs slot_tuple_iter.lookup (wpAny_pure ?_)))
  simp only [Bool.false_eq_true, if_false]
  refine wpAny_bind (wpAny_holding (iter_tuple hl (wpAny_bind (wpAny_holding (draw_tuple hlt 1 0 _ _ ⟨_, Heap.get?_push_size _ rfl, rfl, rfl⟩ (hl.push _) (by omega) fun g1 it1 hs1 => ?_)))))
  have l1 : IsTup g1 l items := (hl.push _).extBut hs1.extBut hlt
  rw [Nat.zero_add] at it1
  obtain ⟨oi, hoi, _⟩ := id it1
  obtain ⟨ol, hol, _⟩ := id l1
  rw [List.drop_zero, hx]
  show wpAny _ _ (if (List.length [x]) < 1 then _ else _) _ _ _
  rw [if_neg (by simp)]
  refine wpAny_bind (wpAny_holding (PySem.W.kun_collect (s := { s with heap := g1 }) (T := "tuple_iterator") (.inr (.inr (.inr rfl))) (Walks.tuple (A := A.in1) hh s.heap.objs.size l hlt items) (fun j u st => st.1.typeIs) (k := 1) (by omega) ⟨it1, l1⟩ (Heap.lt_size hoi) (Heap.lt_size hol) (fun g2 tk hk => ?_) hz))
  rw [hx]
  show wpAny _ _ (if xs.length < 2 - 1 - 1 then _ else _) _ _ _
  rw [if_neg (by omega)]
  show wpAny _ _ (newList (xs.take (xs.length - (2 - 1 - 1))) >>= fun d => pure ([x] ++ [d] ++ xs.drop (xs.length - (2 - 1 - 1)))) _ _ _
  rw [show xs.length - (2 - 1 - 1) = xs.length by omega, List.take_length, List.drop_length]
  refine wpAny_bind (wpAny_newList (wpAny_pure ?_) (by omega))
  exact h _ _ fun b o e => hk b o (Nat.ne_of_lt (Heap.lt_size e)) (hs1.extBut b o (Nat.ne_of_lt (Heap.lt_size e)) (Heap.get?_push_of_some _ e))
/-- a, *b = a list -/
theorem star2L {l : Addr} {items : Array Value} {x : Value} {xs : List Value} {Q : List Value → Shared → Prop} (hl : s.heap.IsList l items) (hh : A.handled = none) (hx : items.toList = x :: xs) (hz : items.size ≤ sizeLine)
    (h : ∀ (g : Heap) tk, (∀ b o, s.heap.get? b = some o → g.get? b = some o) → Q [x, .ref g.objs.size] { s with heap := g.push { cls := .type "list", data := .seq xs.toArray }, toks := tk }) :
    wpAny (model prog w) A (unpackItems (.ref l) 2 (some 1)) Q E s := by
  have hsz : items.size = xs.length + 1 := by
    have e := congrArg List.length hx
    simpa using e
  have hlt : l ≠ s.heap.objs.size := by obtain ⟨o, ho, _⟩ := hl; exact Nat.ne_of_lt (Heap.lt_size ho)
  unfold unpackItems notIterableAtAll
  refine wpAny_bind (wpAny_bind (wpAny_specialOf hl.typeIs slot_list_iter.lookup (wpAny_pure ?_)))
  simp only [Bool.false_eq_true, if_false]
  refine wpAny_bind (wpAny_holding (wpAny_pyIter_list hl (wpAny_bind (wpAny_holding (PySem.W.kun_draw hlt 1 0 _ _ ⟨_, Heap.get?_push_size _ rfl, rfl, rfl⟩ (hl.push _) (by omega) fun g1 it1 hs1 => ?_)))))
  have l1 : g1.IsList l items := (hl.push _).extBut hs1.extBut hlt
  rw [Nat.zero_add] at it1
  obtain ⟨oi, hoi, _⟩ := id it1
  obtain ⟨ol, hol, _⟩ := id l1
  rw [List.drop_zero, hx]
  show wpAny _ _ (if (List.length [x]) < 1 then _ else _) _ _ _
  rw [if_neg (by simp)]
  refine wpAny_bind (wpAny_holding (PySem.W.kun_collect (s := { s with heap := g1 }) (T := "list_iterator") (.inr (.inr (.inl rfl))) (Walks.list (A := A.in1) hh s.heap.objs.size l hlt items) (fun j u st => st.1.typeIs) (k := 1) (by omega) ⟨it1, l1⟩ (Heap.lt_size hoi) (Heap.lt_size hol) (fun g2 tk hk => ?_) hz))
  rw [hx]
  show wpAny _ _ (if xs.length < 2 - 1 - 1 then _ else _) _ _ _
  rw [if_neg (by omega)]
  show wpAny _ _ (newList (xs.take (xs.length - (2 - 1 - 1))) >>= fun d => pure ([x] ++ [d] ++ xs.drop (xs.length - (2 - 1 - 1)))) _ _ _
  rw [show xs.length - (2 - 1 - 1) = xs.length by omega, List.take_length, List.drop_length]
  refine wpAny_bind (wpAny_newList (wpAny_pure ?_) (by omega))
  exact h _ _ fun b o e => hk b o (Nat.ne_of_lt (Heap.lt_size e)) (hs1.extBut b o (Nat.ne_of_lt (Heap.lt_size e)) (Heap.get?_push_of_some _ e))
end
section
variable {T : Tbl} {call : ACall} {k : Nat} {N : List Str} {sc cs : Scope} {X : Cx} {hid : Addr → Prop} {W : WX} {μ : Mem} {H : Hp} {cm : Bool} {Pn : PX}
def lHs (S : Sg) (Pn : PX) (ow : List Nat) (w : List D → Env → Mem → (Env → Mem → Prop) → Prop) : TGs := fun vs σ H Q => ∃ ρ μ ds Nx, St2 S Pn ρ σ μ H ∧ Dats S μ H vs ds ∧ w ds ρ μ Nx ∧ ∀ ρ' μ' σ' H', Grow μ H μ' H' → St2 S Pn ρ' σ' μ' H' → SlB ow σ σ' → Nx ρ' μ' → Q σ' H'
structure SndG (T : Tbl) (call : ACall) (X : Cx) (Pn : PX) (e : Expr) (c : CT) : Prop where
  pg : ∀ (hid : Addr → Prop), PG X e (lH (mkS T X.K hid) Pn c.own (wTg T call c))
structure SndGs (T : Tbl) (call : ACall) (X : Cx) (Pn : PX) (es : List Expr) (c : CTs) : Prop where
  pgs : ∀ (hid : Addr → Prop), PGs X es (lHs (mkS T X.K hid) Pn c.own (wTgs T call c))
  star : es.all noStar = true
theorem PG.weak {e : Expr} {t t' : TG} (h : PG X e t) (w : ∀ v σ H Q, t' v σ H Q → t v σ H Q) : PG X e t' := ⟨fun pins s σ H v u Q I r q => h.run pins s σ H v u Q I r (w v σ H Q q)⟩
theorem PGs.weak {e : List Expr} {t t' : TGs} (h : PGs X e t) (w : ∀ v σ H Q, t' v σ H Q → t v σ H Q) : PGs X e t' := ⟨fun pins s σ H v u Q I r q => h.run pins s σ H v u Q I r (w v σ H Q q)⟩
theorem sndG_nm {i : Nat} {x : Str} {p : Pos} (hN : X.N.Nodup) (hi : X.N[i]? = some x) (hx : Loc X.env.scope x) (hf : X.fn x = true ∨ X.env.scope.names.lookup x = some .local) : SndG T call X Pn (.Name x p) (.nm i) :=
  ⟨fun hid => PG.weak (pg_name hN hi hx hf) fun v σ H Q h => by
    obtain ⟨ρ, μ, d, Nx, s2, dv, hw, kn⟩ := h
    exact kn _ _ _ _ (Grow.refl _ _) (s2.set i dv) ((SlB.refl _ _).set (by simp [CT.own])) hw⟩
theorem sndG_att {f : Nat} {o : Expr} {p : Pos} {co : CE} (st : Site T call k N sc cs cm Pn X) (hf : f < T.flds.length) (ho : Snd T call X Pn o co) : SndG T call X Pn (.Attribute o (fN T f) p) (.att co f) :=
  ⟨fun hid => pg_attW (W := fun _ _ _ _ => False) st hf (ho.pe hid _ takes0)⟩
theorem asg_sub {o i : Expr} {pos : Pos} {env : PySem.Env} (hs : noSlice i = true) (v : Value) : assign (.Subscript o i pos) env v = (do
      let ov ← holding [v] (eval o env)
      let iv ← holding [v, ov] (eval i env)
      standAt pos
      holding [v, ov, iv] (setItem ov iv v)
      release [v, ov, iv] []) := by
  cases i <;> first
    | rfl
    | cases hs
theorem kPut_put (kvs : List (Key × V)) : ∀ {ds : List D} {S : Sg} {μ : Mem} {H : Hp} {k : Key} {v : V} {d : D}, Dats S μ H (kvs.map (·.2)) ds → Dat S μ H v d →
    (putK kvs k v).map (·.1) = (kPut ((kvs.map (·.1)).zip ds) k d).map (·.1) ∧ Dats S μ H ((putK kvs k v).map (·.2)) ((kPut ((kvs.map (·.1)).zip ds) k d).map (·.2)) := by
  intro ds S μ H k v d r rd
  have hl : (kvs.map (·.1)).length = ds.length := by rw [List.length_map]; have := r.length; rwa [List.length_map] at this
  have any : (kvs.any fun kv => decide (kv.1 = k)) = (((kvs.map (·.1)).zip ds).any fun kv => decide (kv.1 = k)) := by
    clear r
    induction kvs generalizing ds with
    | nil => cases ds <;> rfl
    | cons q kvs ih =>
      cases ds with
      | nil => simp at hl
      | cons e ds =>
        simp only [List.map_cons, List.zip_cons_cons, List.any_cons]
        rw [ih (by simpa using hl)]
  unfold putK kPut
  rw [← any]
  by_cases h : (kvs.any fun kv => decide (kv.1 = k)) = true
  · rw [if_pos h, if_pos h]
    clear any h
    induction kvs generalizing ds with
    | nil => cases r; exact ⟨rfl, .nil⟩
    | cons q kvs ih =>
      cases r with
      | cons r1 r2 =>
        obtain ⟨h1, h2⟩ := ih r2 (by simpa using hl)
        refine ⟨?_, ?_⟩
        · simp only [List.map_cons, List.zip_cons_cons]
          rw [h1]
          congr 1
          split <;> rfl
        · simp only [List.map_cons, List.zip_cons_cons]
          refine .cons ?_ h2
          by_cases e : q.1 = k
          · rw [if_pos e, if_pos e]; exact rd
          · rw [if_neg e, if_neg e]; exact r1
  · rw [if_neg h, if_neg h]
    obtain ⟨z1, z2⟩ := zip_map hl
    refine ⟨?_, ?_⟩
    · rw [List.map_append, List.map_append, z1]
      rfl
    · rw [List.map_append, List.map_append, z2]
      exact r.append (.cons rd .nil)
/-- o[i] = .. -/
theorem sndG_sub {o i : Expr} {p : Pos} {co ci : CE} (st : Site T call k N sc cs cm Pn X) (hs : noSlice i = true) (ho : Snd T call X Pn o co) (hi : Snd T call X Pn i ci) : SndG T call X Pn (.Subscript o i p) (.sub co ci) := by
  have hu : X.A.units + 1 < cLine := by have := st.un; omega
  have ps : PSet X (fun o i v H Q => rSetL o i v H Q ∨ rSetD o i v H Q) := by
    intro pins s σ H o i v ov iv u Q I ro ri rv h
    rcases h with h | h
    · exact set_list pins s σ H o i v ov iv u Q I ro ri rv h
    · exact set_dict hu pins s σ H o i v ov iv u Q I ro ri rv h
  refine ⟨fun hid => PG.weak (pg_sub (ho.pe hid (fun _ _ _ _ => False) takes0) (hi.pe hid (fun _ _ _ _ => False) takes0) ps fun v => asg_sub hs v) fun v σ H Q h => ?_⟩
  obtain ⟨ρ, μ, d, Nx, s2, dv, hw, kn⟩ := h
  refine lE.bind2 s2 hw kx_no fun x y μ2 vx vy H2 g s3 rx ry _ b => ?_
  have dv2 := dv.grow g
  cases x <;> first
    | exact b.elim
    | skip
  rename_i a
  cases rx
  dsimp only at b
  split at b
  · rename_i ds ha
    split at b
    · rename_i j
      split at b
      · rename_i jj hj
        cases ry
        obtain ⟨vs, h1, r⟩ := s3.mm.ok a _ ha
        refine .inl ⟨a, vs, j, jj, rfl, rfl, h1, by rw [r.length]; exact hj, ?_⟩
        have gw : Grow μ2 H2 (mset μ2 a (.lst (ds.set jj d))) (upd H2 a (.lst (vs.set jj v))) := Grow.write ha
        exact kn ρ _ σ _ (g.trans gw) (s3.grow gw (s3.mm.write ha ⟨_, upd_same, (r.set jj dv2).grow gw⟩)) (SlB.refl _ _) b
      · exact b.elim
    · exact b.elim
  · rename_i ks ds ha
    split at b
    · rename_i kk hk
      have ey := keyD_kV ry hk
      subst ey
      obtain ⟨kvs, vs, h1, h2, h3, r⟩ := s3.mm.ok a _ ha
      subst h2 h3
      have hp := kPut_put kvs (k := kk) r dv2
      have hl : kvs.length < sizeLine := by
        have := b.1
        rw [List.length_map] at this
        have := line1000
        omega
      refine .inr ⟨a, _, rfl, .inl ⟨kvs, kk, h1, rfl, hl, rfl⟩, ?_⟩
      have gw : Grow μ2 H2 (mset μ2 a (.dK ((kPut ((kvs.map (·.1)).zip ds) kk d).map (·.1)) ((kPut ((kvs.map (·.1)).zip ds) kk d).map (·.2)))) (upd H2 a (.dK (putK kvs kk v))) := Grow.write ha
      exact kn ρ _ σ _ (g.trans gw) (s3.grow gw (s3.mm.write ha ⟨_, _, upd_same, hp.1, rfl, hp.2.grow gw⟩)) (SlB.refl _ _) b.2
    · exact b.elim
  · exact b.elim
theorem sndGs_nil : SndGs T call X Pn [] .nil := ⟨fun hid => PGs.weak pgs_nil fun vs σ H Q h => by
  obtain ⟨ρ, μ, ds, Nx, s2, dv, hw, kn⟩ := h
  cases ds with
  | nil =>
    cases dv
    exact ⟨rfl, kn ρ μ σ H (Grow.refl _ _) s2 (SlB.refl _ _) hw⟩
  | cons d ds => exact hw.elim, rfl⟩
theorem each_cons {e : Expr} {es : List Expr} {env : PySem.Env} (h : noStar e = true) : (assignEach (e :: es) env).map (·.2) = assign e env :: (assignEach es env).map (·.2) := by
  cases e <;> first
    | rfl
    | cases h
theorem each_len {env : PySem.Env} : ∀ {es : List Expr}, (assignEach es env).length = es.length
  | [] => rfl
  | e :: es => by
    have : (assignEach (e :: es) env).length = (assignEach es env).length + 1 := by cases e <;> rfl
    rw [this, each_len]
    rfl
theorem each_star {env : PySem.Env} : ∀ {es : List Expr}, es.all noStar = true → (assignEach es env).findIdx? (·.1) = none
  | [], _ => rfl
  | e :: es, h => by
    have h2 := Bool.and_eq_true_iff.mp (show (noStar e && es.all noStar) = true from h)
    have e1 : assignEach (e :: es) env = (false, assign e env) :: assignEach es env := by
      have hz := h2.1
      cases e <;> first
        | rfl
        | cases hz
    rw [e1, List.findIdx?_cons, each_star h2.2]
    rfl
theorem sndGs_cons {e : Expr} {es : List Expr} {c : CT} {cs' : CTs} (hn : noStar e = true) (h : SndG T call X Pn e c) (t : SndGs T call X Pn es cs') : SndGs T call X Pn (e :: es) (.cons c cs') :=
  ⟨fun hid => PGs.weak (pgs_cons (h.pg hid) (t.pgs hid) (each_cons hn)) fun vs σ H Q q => by
    obtain ⟨ρ, μ, ds, Nx, s2, dv, hw, kn⟩ := q
    cases ds with
    | nil => exact hw.elim
    | cons d ds =>
      cases dv with
      | @cons v _ vs _ r rs =>
        refine ⟨v, vs, rfl, ρ, μ, d, _, s2, r, hw, fun ρ1 μ1 σ1 H1 g s3 sl b => ?_⟩
        exact ⟨ρ1, μ1, ds, Nx, s3, rs.grow g, b, fun ρ2 μ2 σ2 H2 g2 s4 sl2 nx => kn ρ2 μ2 σ2 H2 (g.trans g2) s4 (sl.trans sl2) nx⟩,
   by show (noStar e && es.all noStar) = true; rw [hn, t.star]; rfl⟩
/-- a, b, .. = a tuple -/
theorem sndG_tup {es : List Expr} {c : CTs} {n : Nat} {p : Pos} (hc : X.calm = true) (h : SndGs T call X Pn es c) (hl : c.len = es.length) : SndG T call X Pn (.Tuple es n p) (.tup c) :=
  ⟨fun hid => PG.weak (pg_tup hc (h.pgs hid) each_len (each_star h.star)) fun v σ H Q q => by
    obtain ⟨ρ, μ, d, Nx, s2, dv, hw, kn⟩ := q
    cases d <;> first
      | exact hw.elim
      | skip
    rename_i ds
    cases dv with
    | @tup a vs _ hi r =>
      have hw2 : ds.length = c.len ∧ wTgs T call c ds ρ μ Nx := hw
      exact ⟨a, vs, rfl, hi.sq, by rw [r.length, hw2.1, hl], ρ, μ, ds, Nx, s2, r, hw2.2, kn⟩⟩
/-- a, *b = a tuple -/
theorem sndG_star {i j : Nat} {x y : Str} {n : Nat} {p p1 p2 p3 : Pos} (hc : X.calm = true) (hN : X.N.Nodup) (hi : X.N[i]? = some x) (hj : X.N[j]? = some y) (hx : Loc X.env.scope x) (hy : Loc X.env.scope y) (hf : X.fn x = true ∨ X.env.scope.names.lookup x = some .local) (hg : X.fn y = true ∨ X.env.scope.names.lookup y = some .local) :
    SndG T call X Pn (.Tuple [.Name x p1, .Starred (.Name y p2) p3] n p) (.star i j) := by
  refine ⟨fun hid => ⟨fun pins s σ H v u Q I r h => ?_⟩⟩
  obtain ⟨ρ, μ, d, Nx, s2, dv, hw, kn⟩ := h
  cases d <;> first
    | exact hw.elim
    | skip
  · rename_i ds
    cases ds with
    | nil => exact hw.elim
    | cons d0 ds =>
      cases dv with
      | @tup a vs _ hi' rr =>
        cases rr with
        | @cons v0 _ vs' _ r0 rs =>
          cases r
          obtain ⟨its, rv, ht, hz⟩ := I.tuple hi'.sq
          cases rv with
          | @cons _ u0 _ us ru rus =>
            have hw2 : Nx ((ρ.set i (some d0)).set j (some (.list ds))) μ := hw
            show wpAny _ _ (do standAt p; unpack (.ref a) [(false, assign (.Name x p1) X.env), (true, assign (.Name y p2) X.env)]) _ _ s
            refine wpAny_bind (wpAny_standAt ?_)
            unfold unpack
            refine wpAny_bind (wpAny_holding (star2 (x := u0) (xs := us) ht (I.ok.hd hc) rfl (by simp only [List.size_toArray]; rw [← (Paired.cons ru rus : Vals (v0 :: vs') (u0 :: us)).length]; exact hz) fun g tk hk => ?_))
            have I2 : Inv X pins σ H { s with heap := g, toks := tk } := I.kept hk
            have I3 : Inv X pins σ (upd H g.objs.size (.lst vs')) { s with heap := g.push { cls := .type "list", data := .seq us.toArray }, toks := tk } :=
              I2.laid (t' := tk) (fun b o e => Heap.get?_push_of_some _ e) (Nat.le_refl _) ⟨by have := hz; simp only [List.length_cons] at this; omega, us, 0, rus, Heap.get?_push_size _ rfl⟩
            have hp : H g.objs.size = none := I2.hok.fresh (Nat.le_refl _)
            have gw : Grow μ H μ (upd H g.objs.size (.lst vs')) := Grow.new hp
            have sB := s2.grow gw (s2.mm.new hp)
            show wpAny _ _ (assignInOrder [assign (.Name x p1) X.env, assign (.Name y p2) X.env] [u0, .ref g.objs.size]) _ _ _
            refine assignInOrder_cons (wpAny_assign_Name (store_ok I3 hN hi hx ru (fun s4 I4 => ?_) hf))
            refine assignInOrder_cons (wpAny_assign_Name (store_ok (v := .ref g.objs.size) I4 hN hj hy rfl (fun s5 I5 => assignInOrder_nil ?_) hg))
            refine ⟨_, _, I5, kn _ μ _ _ gw ?_ (((SlB.refl _ _).set (by simp [CT.own])).set (by simp [CT.own])) hw2⟩
            refine (sB.set i (r0.grow gw)).set j ?_
            exact .list (s2.mm.free hp) (s2.mm.hids hp) upd_same (rs.grow gw)
  · rename_i ds
    cases ds with
    | nil => exact hw.elim
    | cons d0 ds =>
      cases dv with
      | @list a vs _ m0 n0 h0 rr =>
        cases rr with
        | @cons v0 _ vs' _ r0 rs =>
          cases r
          obtain ⟨its, rv, pl, hz⟩ := I.list (SqL.of h0)
          have ht : s.heap.IsList a its.toArray := by
            obtain ⟨o, m, e, c, d, q⟩ := pl
            exact ⟨o, e, c, m, q⟩
          cases rv with
          | @cons _ u0 _ us ru rus =>
            have hw2 : Nx ((ρ.set i (some d0)).set j (some (.list ds))) μ := hw
            show wpAny _ _ (do standAt p; unpack (.ref a) [(false, assign (.Name x p1) X.env), (true, assign (.Name y p2) X.env)]) _ _ s
            refine wpAny_bind (wpAny_standAt ?_)
            unfold unpack
            refine wpAny_bind (wpAny_holding (star2L (x := u0) (xs := us) ht (I.ok.hd hc) rfl (by simp only [List.size_toArray]; rw [← (Paired.cons ru rus : Vals (v0 :: vs') (u0 :: us)).length]; exact hz) fun g tk hk => ?_))
            have I2 : Inv X pins σ H { s with heap := g, toks := tk } := I.kept hk
            have I3 : Inv X pins σ (upd H g.objs.size (.lst vs')) { s with heap := g.push { cls := .type "list", data := .seq us.toArray }, toks := tk } :=
              I2.laid (t' := tk) (fun b o e => Heap.get?_push_of_some _ e) (Nat.le_refl _) ⟨by have := hz; simp only [List.length_cons] at this; omega, us, 0, rus, Heap.get?_push_size _ rfl⟩
            have hp : H g.objs.size = none := I2.hok.fresh (Nat.le_refl _)
            have gw : Grow μ H μ (upd H g.objs.size (.lst vs')) := Grow.new hp
            have sB := s2.grow gw (s2.mm.new hp)
            show wpAny _ _ (assignInOrder [assign (.Name x p1) X.env, assign (.Name y p2) X.env] [u0, .ref g.objs.size]) _ _ _
            refine assignInOrder_cons (wpAny_assign_Name (store_ok I3 hN hi hx ru (fun s4 I4 => ?_) hf))
            refine assignInOrder_cons (wpAny_assign_Name (store_ok (v := .ref g.objs.size) I4 hN hj hy rfl (fun s5 I5 => assignInOrder_nil ?_) hg))
            refine ⟨_, _, I5, kn _ μ _ _ gw ?_ (((SlB.refl _ _).set (by simp [CT.own])).set (by simp [CT.own])) hw2⟩
            refine (sB.set i (r0.grow gw)).set j ?_
            exact .list (s2.mm.free hp) (s2.mm.hids hp) upd_same (rs.grow gw)
end
end Fk
end
section
set_option maxHeartbeats 4000000
/-! What loops and comprehensions walk. -/
namespace Fk
open PySem PySem.Spec PyProof.Rows L2
def zOk (S : Sg) (μ : Mem) (H : Hp) : ZS → List D → Prop
  | .lst a xs, ds => ImL S μ H a xs ∧ Dats S μ H xs ds
  | .tup a xs, ds => ImT S μ H a xs ∧ Dats S μ H xs ds
  | .str x, ds => ds = x.cps.toList.map fun c => D.str ⟨#[c]⟩
/-- an iterator over these items, as seen from where it begins -/
inductive WkD (S : Sg) (μ : Mem) (H : Hp) : It → List D → (Mem → Prop) → Prop where
  | lst {a : Addr} {xs : List V} {ds : List D} (h : ImL S μ H a xs) (r : Dats S μ H xs ds) : WkD S μ H (Itl S.K a) ds fun _ => True
  | lstM {a : Addr} {ds : List D} : WkD S μ H (Itl S.K a) ds fun μ => μ a = some (.lst ds)
  | tup {a : Addr} {xs : List V} {ds : List D} (h : ImT S μ H a xs) (r : Dats S μ H xs ds) : WkD S μ H (Itt S.K a) ds fun _ => True
  | str (x : Str) : WkD S μ H (Its x) (x.cps.toList.map fun c => D.str ⟨#[c]⟩) fun _ => True
  | rng (lo : Int) (n : Nat) : WkD S μ H (Itr lo n) ((List.range n).map fun (i : Nat) => D.int (lo + (i : Int))) fun _ => True
  | enum {a : Addr} {xs : List V} {ds : List D} (h : ImL S μ H a xs) (r : Dats S μ H xs ds) : WkD S μ H (Ite S.K a) (ds.zipIdx.map fun p => .tup [.int (p.2 : Int), p.1]) fun _ => True
  | enumM {a : Addr} {ds : List D} : WkD S μ H (Ite S.K a) (ds.zipIdx.map fun p => .tup [.int (p.2 : Int), p.1]) fun μ => μ a = some (.lst ds)
  | zz {z1 z2 : ZS} {ds es : List D} (o1 : zOk S μ H z1 ds) (o2 : zOk S μ H z2 es) : WkD S μ H (Itzz S.K z1 z2) ((ds.zip es).map fun p => .tup [p.1, p.2]) fun _ => True
section
variable {S : Sg} {μ μ' : Mem} {H H' : Hp} {p : Addr} {J : It} {items : List D} {G : Mem → Prop} {o : HO}
theorem ImL.hide {a : Addr} {vs : List V} (h : ImL S μ H a vs) (hp : H p = none) : ImL (S.hide p) μ H a vs := h.elim (fun h => .inl ⟨h.1, fun z => Or.elim z h.2.1 fun z => by
      subst z
      rcases h.2.2 with q | ⟨o, q⟩ <;> (rw [hp] at q; cases q), h.2.2⟩) .inr
theorem ImT.hide {a : Addr} {vs : List V} (h : ImT S μ H a vs) (hp : H p = none) : ImT (S.hide p) μ H a vs := h.elim (fun h => .inl ⟨h.1, fun z => Or.elim z h.2.1 fun z => by
      subst z
      rcases h.2.2 with q | ⟨o, q⟩ <;> (rw [hp] at q; cases q), h.2.2⟩) .inr
theorem zOk.hide {z : ZS} {ds : List D} (h : zOk S μ H z ds) (hp : H p = none) : zOk (S.hide p) μ H z ds := by
  cases z with
  | lst a xs => exact ⟨h.1.hide hp, h.2.hide hp⟩
  | tup a xs => exact ⟨h.1.hide hp, h.2.hide hp⟩
  | str x => exact h
theorem zOk.grow {z : ZS} {ds : List D} (h : zOk S μ H z ds) (g : Grow μ H μ' H') : zOk S μ' H' z ds := by
  cases z with
  | lst a xs => exact ⟨h.1.grow g, h.2.grow g⟩
  | tup a xs => exact ⟨h.1.grow g, h.2.grow g⟩
  | str x => exact h
theorem WkD.hide (w : WkD S μ H J items G) (hp : H p = none) : WkD (S.hide p) μ H J items G := by
  cases w with
  | lst h r => exact .lst (S := S.hide p) (h.hide hp) (r.hide hp)
  | lstM => exact .lstM (S := S.hide p)
  | tup h r => exact .tup (S := S.hide p) (h.hide hp) (r.hide hp)
  | str x => exact .str x
  | rng lo n => exact .rng lo n
  | enum h r => exact .enum (S := S.hide p) (h.hide hp) (r.hide hp)
  | enumM => exact .enumM (S := S.hide p)
  | zz o1 o2 => exact .zz (S := S.hide p) (o1.hide hp) (o2.hide hp)
theorem WkD.grow (w : WkD S μ H J items G) (g : Grow μ H μ' H') : WkD S μ' H' J items G := by
  cases w with
  | lst h r => exact .lst (h.grow g) (r.grow g)
  | lstM => exact .lstM
  | tup h r => exact .tup (h.grow g) (r.grow g)
  | str x => exact .str x
  | rng lo n => exact .rng lo n
  | enum h r => exact .enum (h.grow g) (r.grow g)
  | enumM => exact .enumM
  | zz o1 o2 => exact .zz (o1.grow g) (o2.grow g)
theorem zOk.ok {z : ZS} {ds : List D} (h : zOk S μ H z ds) : z.ok S.K H := by
  cases z with
  | lst a xs => exact h.1.sq
  | tup a xs => exact h.1.sq
  | str x => trivial
theorem zOk.its {z : ZS} {ds : List D} (h : zOk S μ H z ds) : Dats S μ H z.items ds := by
  cases z with
  | lst a xs => exact h.2
  | tup a xs => exact h.2
  | str x =>
    have e : ds = x.cps.toList.map fun c => D.str ⟨#[c]⟩ := h
    subst e
    show Dats S μ H (x.cps.toList.map fun c => V.str ⟨#[c]⟩) _
    induction x.cps.toList with
    | nil => exact .nil
    | cons c cs ih => exact .cons (.str _) ih
/-- a turn -/
theorem WkD.goes (w : WkD S μ H J items G) (m : Mm S μ H) (g : G μ) {i : Nat} (hi : i < items.length) : J.go i H := by
  cases w with
  | lst h r =>
    have hl := r.length
    exact ⟨_, _, h.sq, List.getElem?_eq_getElem (by omega)⟩
  | @lstM a ds =>
    obtain ⟨vs, h1, r⟩ := m.ok a _ g
    have hl := r.length
    exact ⟨_, _, SqL.of h1, List.getElem?_eq_getElem (by omega)⟩
  | tup h r =>
    have hl := r.length
    exact ⟨_, _, h.sq, List.getElem?_eq_getElem (by omega)⟩
  | str x => simpa [Its] using hi
  | rng lo n => simpa [Itr] using hi
  | enum h r =>
    have hl := r.length
    simp only [List.length_map, List.length_zipIdx] at hi
    exact ⟨_, _, h.sq, List.getElem?_eq_getElem (by omega)⟩
  | @enumM a ds =>
    obtain ⟨vs, h1, r⟩ := m.ok a _ g
    have hl := r.length
    simp only [List.length_map, List.length_zipIdx] at hi
    exact ⟨_, _, SqL.of h1, List.getElem?_eq_getElem (by omega)⟩
  | zz o1 o2 =>
    have l1 := o1.its.length
    have l2 := o2.its.length
    simp only [List.length_map, List.length_zip] at hi
    exact ⟨o1.ok, o2.ok, by omega, by omega⟩
/-- the end -/
theorem WkD.stops (w : WkD S μ H J items G) (m : Mm S μ H) (g : G μ) : J.stop items.length H := by
  cases w with
  | lst h r => exact ⟨_, h.sq, Nat.le_of_eq r.length⟩
  | @lstM a ds =>
    obtain ⟨vs, h1, r⟩ := m.ok a _ g
    exact ⟨_, SqL.of h1, Nat.le_of_eq r.length⟩
  | tup h r => exact ⟨_, h.sq, Nat.le_of_eq r.length⟩
  | str x => simp [Its]
  | rng lo n => simp [Itr]
  | enum h r =>
    simp only [List.length_map, List.length_zipIdx]
    exact ⟨_, h.sq, Nat.le_of_eq r.length⟩
  | @enumM a ds =>
    obtain ⟨vs, h1, r⟩ := m.ok a _ g
    simp only [List.length_map, List.length_zipIdx]
    exact ⟨_, SqL.of h1, Nat.le_of_eq r.length⟩
  | zz o1 o2 =>
    have l1 := o1.its.length
    have l2 := o2.its.length
    simp only [List.length_map, List.length_zip]
    exact ⟨o1.ok, o2.ok, by omega⟩
/-- a new pair -/
theorem pair_new {x y : V} {d e : D} {Tq : Addr} (m : Mm S μ H) (hT : H Tq = none) (rx : Dat S μ H x d) (ry : Dat S μ H y e) : Grow μ H μ (upd H Tq (.tup [x, y])) ∧ Mm S μ (upd H Tq (.tup [x, y])) ∧ Dat S μ (upd H Tq (.tup [x, y])) (.ref Tq) (.tup [d, e]) :=
  ⟨Grow.new hT, m.new hT, .tup (.inl ⟨m.free hT, m.hids hT, .inl upd_same⟩) (.cons (rx.grow (Grow.new hT)) (.cons (ry.grow (Grow.new hT)) .nil))⟩
theorem WkD.yields (w : WkD S μ H J items G) (m : Mm S μ H) (g : G μ) {i : Nat} {d : D} {x : V} (hi : items[i]? = some d) (y : J.yld i H x H') : Grow μ H μ H' ∧ Mm S μ H' ∧ Dat S μ H' x d := by
  cases w with
  | lst h r =>
    obtain ⟨rfl, y⟩ := y
    obtain ⟨v, hv, dv⟩ := r.get' hi
    have := y _ h.sq
    rw [hv] at this
    cases this
    exact ⟨Grow.refl _ _, m, dv⟩
  | @lstM a ds =>
    obtain ⟨rfl, y⟩ := y
    obtain ⟨vs, h1, r⟩ := m.ok a _ g
    obtain ⟨v, hv, dv⟩ := r.get' hi
    have := y _ (SqL.of h1)
    rw [hv] at this
    cases this
    exact ⟨Grow.refl _ _, m, dv⟩
  | tup h r =>
    obtain ⟨rfl, y⟩ := y
    obtain ⟨v, hv, dv⟩ := r.get' hi
    have := y _ h.sq
    rw [hv] at this
    cases this
    exact ⟨Grow.refl _ _, m, dv⟩
  | str z =>
    obtain ⟨rfl, c, hc, rfl⟩ := y
    have e : (z.cps.toList.map fun c => D.str ⟨#[c]⟩)[i]? = some (D.str ⟨#[c]⟩) := by
      rw [List.getElem?_map, Array.getElem?_toList, hc]
      rfl
    rw [e] at hi
    cases hi
    exact ⟨Grow.refl _ _, m, .str _⟩
  | rng lo n =>
    obtain ⟨rfl, rfl⟩ := y
    have hl : i < n := by
      have := (List.getElem?_eq_some_iff.mp hi).1
      simpa using this
    have e : ((List.range n).map fun (i : Nat) => D.int (lo + (i : Int)))[i]? = some (D.int (lo + (i : Int))) := by
      rw [List.getElem?_map, List.getElem?_range hl]
      rfl
    rw [e] at hi
    cases hi
    exact ⟨Grow.refl _ _, m, .int _⟩
  | @enum a xs ds h r =>
    obtain ⟨Tq, x0, rfl, hT, rfl, y⟩ := y
    have y0 := y _ h.sq
    obtain ⟨d0, hd0, dv⟩ := r.get y0
    have e : (ds.zipIdx.map fun p => D.tup [.int (p.2 : Int), p.1])[i]? = some (D.tup [.int (i : Int), d0]) := by
      rw [List.getElem?_map, List.getElem?_zipIdx, hd0]
      simp
    rw [e] at hi
    cases hi
    exact pair_new m hT (.int _) dv
  | @enumM a ds =>
    obtain ⟨Tq, x0, rfl, hT, rfl, y⟩ := y
    obtain ⟨vs, h1, r⟩ := m.ok a _ g
    have y0 := y _ (SqL.of h1)
    obtain ⟨d0, hd0, dv⟩ := r.get y0
    have e : (ds.zipIdx.map fun p => D.tup [.int (p.2 : Int), p.1])[i]? = some (D.tup [.int (i : Int), d0]) := by
      rw [List.getElem?_map, List.getElem?_zipIdx, hd0]
      simp
    rw [e] at hi
    cases hi
    exact pair_new m hT (.int _) dv
  | @zz z1 z2 ds es o1 o2 =>
    obtain ⟨Tq, x0, y0, rfl, hT, rfl, h1, h2⟩ := y
    obtain ⟨d1, e1, r1⟩ := o1.its.get h1
    obtain ⟨d2, e2, r2⟩ := o2.its.get h2
    have e : ((ds.zip es).map fun p => D.tup [p.1, p.2])[i]? = some (D.tup [d1, d2]) := by
      have e3 : (ds.zip es)[i]? = some (d1, d2) := List.getElem?_zip_eq_some.mpr ⟨e1, e2⟩
      rw [List.getElem?_map, e3]
      rfl
    rw [e] at hi
    cases hi
    exact pair_new m hT r1 r2
end
section
variable {T : Tbl} {call : ACall} {k : Nat} {N : List Str} {sc cs : Scope} {X : Cx} {hid : Addr → Prop} {W : WX} {μ : Mem} {H : Hp} {cm : Bool} {Pn : PX}
/-- what is walked, by values -/
def lI (S : Sg) (Pn : PX) (W : WX) (w : AI) : TI := fun σ H R => ∃ ρ μ Rr Ψ, St2 S Pn ρ σ μ H ∧ w ρ μ Rr Ψ ∧ KX S μ H Ψ (fun cls dd H' => W cls dd σ H') ∧ ∀ items G μ1 J H1, Grow μ H μ1 H1 → Mm S μ1 H1 → WkD S μ1 H1 J items G → G μ1 → Rr items G μ1 → R J H1
structure SndI (T : Tbl) (call : ACall) (X : Cx) (Pn : PX) (tg e : Expr) (c : CI) : Prop where
  pi : ∀ (hid : Addr → Prop) (W : WX), Takes X W → PI X tg e (lI (mkS T X.K hid) Pn W (wI T call c))
theorem PI.weak {tg e : Expr} {t t' : TI} (h : PI X tg e t) (w : ∀ σ H Q, t' σ H Q → t σ H Q) : PI X tg e t' := ⟨fun pins s σ H Q I q => h.run pins s σ H Q I (w σ H Q q)⟩
/-- a value that is walked: a list, a tuple, a text -/
theorem pi_any {tg e : Expr} {te : TE} (he : PE X e te) : PI X tg e (fun σ H R => te σ H fun x H1 => (∃ a xs, x = .ref a ∧ SqL X.K H1 a xs ∧ R (Itl X.K a) H1) ∨ (∃ a xs, x = .ref a ∧ SqT X.K H1 a xs ∧ R (Itt X.K a) H1) ∨ ∃ z, x = .str z ∧ R (Its z) H1) := by
  refine ⟨fun pins s σ H R I h => thn (he.run pins s σ H _ I h) fun v s1 z => ?_⟩
  obtain ⟨x, H1, I1, r1, q⟩ := z
  rcases q with ⟨a, xs, rfl, hq, q⟩ | ⟨a, xs, rfl, hq, q⟩ | ⟨y, rfl, q⟩
  · cases r1
    obtain ⟨its, rv, p, hz⟩ := I1.list hq
    exact wpAny_pyIter_list p.isList (pi_one (tk := s1.toks) I1 _ (turn_list a _) ⟨_, Heap.get?_push_size _ rfl, rfl, rfl⟩ q)
  · cases r1
    obtain ⟨its, rv, p, hz⟩ := I1.tuple hq
    exact wpAny_pyIter_tuple (show s1.heap.IsTuple a its.toArray from p) (pi_one (tk := s1.toks) I1 _ (turn_tuple a _) ⟨_, Heap.get?_push_size _ rfl, rfl, rfl⟩ q)
  · obtain ⟨t, rfl⟩ := r1
    cases ha : y.cps.all (· < 128)
    · exact wpAny_pyIter_wide ha (pi_one (tk := s1.toks) I1 _ (turn_str _ y t "str_iterator" (.inr rfl)) ⟨_, Heap.get?_push_size _ rfl, rfl, rfl⟩ q)
    · exact wpAny_pyIter_ascii ha (pi_one (tk := s1.toks) I1 _ (turn_str _ y t "str_ascii_iterator" (.inl rfl)) ⟨_, Heap.get?_push_size _ rfl, rfl, rfl⟩ q)
theorem sndI_seq {tg e : Expr} {c : CE} (h : Snd T call X Pn e c) : SndI T call X Pn tg e (.seq c) :=
  ⟨fun hid W tk => PI.weak (pi_any (h.pe hid W tk)) fun σ H R q => by
    obtain ⟨ρ, μ, Rr, Ψ, s2, hw, kx, kr⟩ := q
    refine lE.bind s2 hw kx fun x μ1 vx H1 g s3 r kx1 b => ?_
    cases r with
    | @list a vs ds m n hh rr => exact .inl ⟨a, vs, rfl, SqL.of hh, kr _ _ _ _ _ g s3.mm (.lst (.inl ⟨m, n, .inl hh⟩) rr) trivial b⟩
    | @ro a vs ds hh rr => exact .inl ⟨a, vs, rfl, hh.sq, kr _ _ _ _ _ g s3.mm (.lst hh rr) trivial b⟩
    | @tup a vs ds hh rr => exact .inr (.inl ⟨a, vs, rfl, hh.sq, kr _ _ _ _ _ g s3.mm (.tup hh rr) trivial b⟩)
    | str z => exact .inr (.inr ⟨z, rfl, kr _ _ _ _ _ g s3.mm (.str z) trivial b⟩)
    | ref a =>
      dsimp only at b
      split at b
      · rename_i ds ha
        obtain ⟨vs, h1, rr⟩ := s3.mm.ok a _ ha
        exact .inl ⟨a, vs, rfl, SqL.of h1, kr _ _ _ _ _ g s3.mm .lstM ha b⟩
      · exact b.elim
    | _ => exact b.elim⟩
theorem pes1 {e : Expr} {c : CE} (hs : noStar e = true) (h : Snd T call X Pn e c) : PEs T call X Pn [e] (.cons c .nil) := ⟨⟨h, hs⟩, trivial⟩
theorem pes2 {a b : Expr} {ca cb : CE} (hsa : noStar a = true) (hsb : noStar b = true) (ha : Snd T call X Pn a ca) (hb : Snd T call X Pn b cb) : PEs T call X Pn [a, b] (.cons ca (.cons cb .nil)) := ⟨⟨ha, hsa⟩, ⟨hb, hsb⟩, trivial⟩
theorem sndI_range1 {tg a : Expr} {ca : CE} {p pos : Pos} (st : Site T call k N sc cs cm Pn X) (hg : Gl X "range") (hs : noStar a = true) (ha : Snd T call X Pn a ca) : SndI T call X Pn tg (.Call (.Name "range" p) [a] [] pos) (.range1 ca) :=
  ⟨fun hid W tk => PI.weak (pi_range1 hg (st.tk.free _ (by simp [freeNames])) ((pes1 hs ha).pa (hid := hid) tk) (star_cons hs)) fun σ H R q => by
    obtain ⟨ρ, μ, Rr, Ψ, s2, hw, kx, kr⟩ := q
    refine lA.bind (w := wEs T call (.cons ca .nil)) (B := fun ds μ1 => ∃ x, ds = [x] ∧ (match x with
      | .int n => -(2 ^ 62) ≤ n ∧ n < 2 ^ 62 ∧ Rr ((List.range n.toNat).map fun (i : Nat) => D.int (i : Int)) (fun _ => True) μ1
      | _ => False)) s2 ?_ kx fun xs μ1 vxs H1 g s3 r kx1 b => ?_
    · show wE T call ca ρ μ (fun d μ1 => ∃ x, [d] = [x] ∧ _) Ψ
      have e : (fun (d : D) (μ1 : Mem) => ∃ x, [d] = [x] ∧ (match x with
        | .int n => -(2 ^ 62) ≤ n ∧ n < 2 ^ 62 ∧ Rr ((List.range n.toNat).map fun (i : Nat) => D.int (i : Int)) (fun _ => True) μ1
        | _ => False)) = fun d μ1 => (match d with
        | .int n => -(2 ^ 62) ≤ n ∧ n < 2 ^ 62 ∧ Rr ((List.range n.toNat).map fun (i : Nat) => D.int (i : Int)) (fun _ => True) μ1
        | _ => False) := by
        funext d μ1
        apply propext
        constructor
        · rintro ⟨x, h1, h2⟩
          cases h1
          exact h2
        · exact fun h => ⟨d, rfl, h⟩
      rw [e]
      exact hw
    · obtain ⟨x, rfl, b⟩ := b
      obtain ⟨v, rfl, dv⟩ := r.one
      cases x <;> first
        | exact b.elim
        | skip
      rename_i n
      cases dv
      have wk : WkD (mkS T X.K hid) μ1 H1 (Itr 0 n.toNat) ((List.range n.toNat).map fun (i : Nat) => D.int ((0 : Int) + (i : Int))) fun _ => True := .rng 0 n.toNat
      simp only [Int.zero_add] at wk
      exact ⟨n, rfl, b.1, b.2.1, kr _ _ _ _ _ g s3.mm wk trivial b.2.2⟩⟩
/-- two arguments, by their values -/
theorem wEs2 {ca cb : CE} {ρ : Env} {μ : Mem} {B : D → D → Mem → Prop} {Ψ : AX} (h : wE T call ca ρ μ (fun x μ1 => wE T call cb ρ μ1 (fun y μ2 => B x y μ2) Ψ) Ψ) : wEs T call (.cons ca (.cons cb .nil)) ρ μ (fun ds μ2 => ∃ x y, ds = [x, y] ∧ B x y μ2) Ψ := by
  show wE T call ca ρ μ (fun x μ1 => wE T call cb ρ μ1 (fun y μ2 => ∃ x' y', [x, y] = [x', y'] ∧ B x' y' μ2) Ψ) Ψ
  have e : (fun (x : D) (μ1 : Mem) => wE T call cb ρ μ1 (fun y μ2 => ∃ x' y', [x, y] = [x', y'] ∧ B x' y' μ2) Ψ) = fun x μ1 => wE T call cb ρ μ1 (fun y μ2 => B x y μ2) Ψ := by
    funext x μ1
    have e2 : (fun (y : D) (μ2 : Mem) => ∃ x' y', [x, y] = [x', y'] ∧ B x' y' μ2) = fun y μ2 => B x y μ2 := by
      funext y μ2
      apply propext
      constructor
      · rintro ⟨x', y', h1, h2⟩
        cases h1
        exact h2
      · exact fun h => ⟨x, y, rfl, h⟩
    rw [e2]
  rw [e]
  exact h
theorem wEs1 {ca : CE} {ρ : Env} {μ : Mem} {B : D → Mem → Prop} {Ψ : AX} (h : wE T call ca ρ μ B Ψ) : wEs T call (.cons ca .nil) ρ μ (fun ds μ2 => ∃ x, ds = [x] ∧ B x μ2) Ψ := by
  show wE T call ca ρ μ (fun x μ1 => ∃ x', [x] = [x'] ∧ B x' μ1) Ψ
  have e : (fun (x : D) (μ1 : Mem) => ∃ x', [x] = [x'] ∧ B x' μ1) = B := by
    funext y μ2
    apply propext
    constructor
    · rintro ⟨x', h1, h2⟩
      cases h1
      exact h2
    · exact fun h => ⟨y, rfl, h⟩
  rw [e]
  exact h
theorem sndI_range2 {tg a b : Expr} {ca cb : CE} {p pos : Pos} (st : Site T call k N sc cs cm Pn X) (hg : Gl X "range") (hsa : noStar a = true) (hsb : noStar b = true) (ha : Snd T call X Pn a ca) (hb : Snd T call X Pn b cb) : SndI T call X Pn tg (.Call (.Name "range" p) [a, b] [] pos) (.range2 ca cb) :=
  ⟨fun hid W tk => PI.weak (pi_range2 hg (st.tk.free _ (by simp [freeNames])) ((pes2 hsa hsb ha hb).pa (hid := hid) tk) (by rw [star_cons hsa, star_cons hsb]; rfl) (by rw [star_cons hsb]; rfl)) fun σ H R q => by
    obtain ⟨ρ, μ, Rr, Ψ, s2, hw, kx, kr⟩ := q
    refine lA.bind s2 (wEs2 hw) kx fun xs μ1 vxs H1 g s3 r kx1 b => ?_
    obtain ⟨x, y, rfl, b⟩ := b
    obtain ⟨v, w, rfl, dv, dw⟩ := r.two
    cases x <;> first
      | exact b.elim
      | skip
    cases y <;> first
      | exact b.elim
      | skip
    rename_i n m
    cases dv
    cases dw
    exact ⟨n, m, rfl, b.1, kr _ _ _ _ _ g s3.mm (.rng n (m - n).toNat) trivial b.2⟩⟩
theorem sndI_enum {e : Expr} {ce : CE} {elts : List Expr} {kk : Nat} {p pos tpos : Pos} (st : Site T call k N sc cs cm Pn X) (hg : Gl X "enumerate") (hs : noStar e = true) (he : Snd T call X Pn e ce) : SndI T call X Pn (.Tuple elts kk tpos) (.Call (.Name "enumerate" p) [e] [] pos) (.enum ce) :=
  ⟨fun hid W tk => PI.weak (pi_enum hg (st.tk.free _ (by simp [freeNames])) ((pes1 hs he).pa (hid := hid) tk) (star_cons hs)) fun σ H R q => by
    obtain ⟨ρ, μ, Rr, Ψ, s2, hw, kx, kr⟩ := q
    refine lA.bind s2 (wEs1 hw) kx fun xs μ1 vxs H1 g s3 r kx1 b => ?_
    obtain ⟨x, rfl, b⟩ := b
    obtain ⟨v, rfl, dv⟩ := r.one
    cases dv with
    | @list a vs ds m n hh rr => exact ⟨a, vs, rfl, SqL.of hh, kr _ _ _ _ _ g s3.mm (.enum (.inl ⟨m, n, .inl hh⟩) rr) trivial b⟩
    | @ro a vs ds hh rr => exact ⟨a, vs, rfl, hh.sq, kr _ _ _ _ _ g s3.mm (.enum hh rr) trivial b⟩
    | ref a =>
      dsimp only at b
      split at b
      · rename_i ds ha
        obtain ⟨vs, h1, rr⟩ := s3.mm.ok a _ ha
        exact ⟨a, vs, rfl, SqL.of h1, kr _ _ _ _ _ g s3.mm .enumM ha b⟩
      · exact b.elim
    | _ => exact b.elim⟩
theorem zSrc_ok {S : Sg} {d : D} {v : V} {xs : List D} (r : Dat S μ H v d) (h : zSrc d = some xs) : ∃ z : ZS, v = z.val ∧ zOk S μ H z xs := by
  cases r with
  | @list a vs ds m n hh rr => cases h; exact ⟨.lst a vs, rfl, .inl ⟨m, n, .inl hh⟩, rr⟩
  | @ro a vs ds hh rr => cases h; exact ⟨.lst a vs, rfl, hh, rr⟩
  | @tup a vs ds hh rr => cases h; exact ⟨.tup a vs, rfl, hh, rr⟩
  | str x => cases h; exact ⟨.str x, rfl, rfl⟩
  | _ => cases h
theorem sndI_zip {a b : Expr} {ca cb : CE} {elts : List Expr} {kk : Nat} {p pos tpos : Pos} (st : Site T call k N sc cs cm Pn X) (hg : Gl X "zip") (hsa : noStar a = true) (hsb : noStar b = true) (ha : Snd T call X Pn a ca) (hb : Snd T call X Pn b cb) :
    SndI T call X Pn (.Tuple elts kk tpos) (.Call (.Name "zip" p) [a, b] [] pos) (.zip ca cb) :=
  ⟨fun hid W tk => PI.weak (pi_zz hg (st.tk.free _ (by simp [freeNames])) ((pes2 hsa hsb ha hb).pa (hid := hid) tk) (by rw [star_cons hsa]) (star_any (by simp [hsb]))) fun σ H R q => by
    obtain ⟨ρ, μ, Rr, Ψ, s2, hw, kx, kr⟩ := q
    refine lA.bind s2 (wEs2 hw) kx fun xs μ1 vxs H1 g s3 r kx1 b => ?_
    obtain ⟨x, y, rfl, b⟩ := b
    obtain ⟨v, w, rfl, dv, dw⟩ := r.two
    split at b
    · rename_i xs ys h1 h2
      obtain ⟨z1, rfl, o1⟩ := zSrc_ok dv h1
      obtain ⟨z2, rfl, o2⟩ := zSrc_ok dw h2
      exact ⟨z1, z2, rfl, o1.ok, o2.ok, kr _ _ _ _ _ g s3.mm (.zz o1 o2) trivial b⟩
    · exact b.elim⟩
end
end Fk
end
section
set_option maxHeartbeats 4000000
/-! Comprehensions. -/
namespace Fk
open PySem PySem.Spec PyProof.Rows L2
theorem upd_id {H : Hp} {a : Addr} {o : HO} (h : H a = some o) : upd H a o = H := by
  funext b
  by_cases e : b = a
  · subst e; rw [upd_same, h]
  · rw [upd_ne e]
section
variable {S : Sg} {μ μ' : Mem} {H H' : Hp} {p : Addr} {Pn : PX} {o u : HO}
theorem Mm.rewrite (m : Mm (S.hide p) μ H) : Mm (S.hide p) μ (upd H p o) := by
  refine m.map (S' := S.hide p) rfl rfl (fun a mo e => upd_ne (hid_ne m e)) (fun v d r => r.show_ (fun a ha => upd_ne ha) fun _ _ => rfl) fun a z => ?_
  obtain ⟨h1, q, h2⟩ := m.hd a z
  refine ⟨h1, ?_⟩
  by_cases e : a = p
  · subst e
    exact ⟨o, upd_same⟩
  · exact ⟨q, (upd_ne e).trans h2⟩
theorem wipeE_get {ρ : Env} : ∀ {vs : List Nat} {i : Nat} {d : D}, (wipeE ρ vs)[i]? = some (some d) → ρ[i]? = some (some d) ∧ i ∉ vs
  | [], i, d, h => ⟨h, by simp⟩
  | v :: vs, i, d, h => by
    unfold wipeE at h
    by_cases e : v = i
    · subst e
      by_cases hl : v < (wipeE ρ vs).length
      · rw [List.getElem?_set_self hl] at h; cases h
      · rw [List.getElem?_eq_none (by simpa using hl)] at h; cases h
    · rw [List.getElem?_set_ne e] at h
      obtain ⟨h1, h2⟩ := wipeE_get h
      exact ⟨h1, by simp only [List.mem_cons, not_or]; exact ⟨fun z => e z.symm, h2⟩⟩
theorem wipeE_len {ρ : Env} : ∀ {vs : List Nat}, (wipeE ρ vs).length = ρ.length
  | [] => rfl
  | v :: vs => by unfold wipeE; rw [List.length_set, wipeE_len]
theorem St2.wipe {ρ : Env} {σ : L2.St} (s : St2 S Pn ρ σ μ H) (vs : List Nat) : St2 S Pn (wipeE ρ vs) (L2.wipe σ vs) μ H :=
  ⟨s.mm, fun i d e => by
    obtain ⟨h1, h2⟩ := wipeE_get e
    obtain ⟨v, h3, h4⟩ := s.sl i d h1
    exact ⟨v, by rw [wipe_get, if_neg h2]; exact h3, h4⟩, by rw [wipeE_len, wipe_length, s.len]⟩
/-- the list that has been made -/
theorem newL_fin {m : Bool} {q : Addr} {μ μ2 : Mem} {H H2 : Hp} {ds : List D} {vs : List V} {Φ : AQ} {Q : VK} (hq : H q = none) (hh : ¬ S.hid q) (g : Grow μ H μ2 H2) (mm : Mm (S.hide q) μ2 H2) (r : Dats (S.hide q) μ2 H2 vs ds) (e : H2 q = some (.lst vs))
    (kq : KQ S μ H Φ Q) (hw : newL m ds μ2 Φ) : Q (.ref q) H2 := by
  have hqm : μ2 q = none := (mm.hd q (.inr rfl)).1
  unfold newL at hw
  rw [← upd_id e]
  cases m with
  | true =>
    rw [if_pos rfl] at hw
    have gg : Grow μ H (mset μ2 q (.lst ds)) (upd H2 q (.lst vs)) := fun a o m e => by
      have ne : a ≠ q := ne_of_none e hq
      obtain ⟨h1, h2⟩ := g a o m e
      exact ⟨(upd_ne ne).trans h1, (mset_ne ne).trans h2⟩
    exact kq _ _ _ _ gg (mm.bareNewM (mo := .lst ds) hh ⟨vs, upd_same, r.bareNewM⟩) (.ref q) (hw q hqm)
  | false =>
    rw [if_neg Bool.false_ne_true] at hw
    have gg : Grow μ H μ2 (upd H2 q (.lst vs)) := fun a o m e => by
      have ne : a ≠ q := ne_of_none e hq
      obtain ⟨h1, h2⟩ := g a o m e
      exact ⟨(upd_ne ne).trans h1, h2⟩
    exact kq _ _ _ _ gg mm.bareNew (.list hqm hh upd_same r.bareNew) hw
end
section
variable {T : Tbl} {call : ACall} {k : Nat} {N : List Str} {sc cs : Scope} {X : Cx} {hid : Addr → Prop} {W : WX} {μ : Mem} {H : Hp} {cm : Bool} {Pn : PX}
abbrev W0 : WX := fun _ _ _ _ => False
theorem comp_read {m : Bool} {elt : CE} {tg : CT} {own : List (Str × Nat)} {it : CI} {ts : CEs} (hown : ∀ i ∈ tg.own, i ∈ own.map (·.2)) : ∀ σ H Q, lE (mkS T X.K hid) noPn W (wE T call (.comp m elt tg own it ts)) σ H Q →
    tLc (lI (mkS T X.K hid) noPn W (wI T call it)) (lHx T X.K noPn tg.own (wTg T call tg)) (lTx T X.K noPn W0 (wTs T call ts)) (lEx T X.K noPn W0 (wE T call elt)) (own.map (·.2)) σ H Q := by
  intro σ H Q h
  obtain ⟨ρ, μ, Φ, Ψ, s2, hw, kq, kx⟩ := h
  refine ⟨ρ, μ, _, Ψ, s2, hw, kx, fun items G μ1 J H1 g1 m1 wk hG0 hc => ?_⟩
  intro D hD
  have hids : ¬ hid D := m1.hids hD
  have sb := (s2.grow g1 m1).wipe (own.map (·.2))
  have wk1 := wk.hide hD
  -- what stands at each turn
  let Pv : Nat → Hp → Prop := fun i H' => ∃ μ' ds vs, H' D = some (.lst vs) ∧ Mm ((mkS T X.K hid).hide D) μ' H' ∧ Dats ((mkS T X.K hid).hide D) μ' H' vs ds ∧ Grow μ1 H1 μ' H' ∧
    compL (wTg T call tg) (wE T call elt) (wTs T call ts) G (items.drop i) ds (wipeE ρ (own.map (·.2))) μ' (fun ds μ2 => newL m ds μ2 Φ)
  have gD : ∀ {μ' : Mem} {H' : Hp} {o : HO}, Grow μ1 H1 μ' H' → Grow μ1 H1 μ' (upd H' D o) := fun {μ' H' o} g a q mm e => by
    have ne : a ≠ D := ne_of_none e hD
    obtain ⟨h1, h2⟩ := g a q mm e
    exact ⟨(upd_ne ne).trans h1, h2⟩
  have stB : ∀ {μ' : Mem} {H' : Hp}, Mm ((mkS T X.K hid).hide D) μ' H' → Grow μ1 H1 μ' H' → St2 ((mkS T X.K hid).hide D) noPn (wipeE ρ (own.map (·.2))) (wipe σ (own.map (·.2))) μ' H' := fun mm g =>
    ⟨mm, fun i d e => let ⟨v, h1, h2⟩ := sb.sl i d e; ⟨v, h1, (h2.hide hD).grow g⟩, sb.len⟩
  refine ⟨fun i m H => m = items.length - i ∧ i ≤ items.length ∧ Pv i H, ⟨items.length, rfl, Nat.zero_le _, μ1, [], [], upd_same, m1.hideNew hD, .nil, gD (Grow.refl _ _), by simpa using hc⟩, ?_⟩
  rintro i mz H' ⟨rfl, hi, μ', ds, vs, hDl, mm, rr, gg, hcl⟩
  by_cases hlt : i < items.length
  · have hx : items[i]? = some items[i] := List.getElem?_eq_getElem hlt
    rw [List.drop_eq_getElem_cons hlt] at hcl
    obtain ⟨hG, hstep⟩ := hcl
    refine .inr ⟨(wk1.grow gg).goes mm hG hlt, Pv (i + 1), fun H'' p => ⟨items.length - (i + 1), by omega, rfl, hlt, p⟩, fun x H'' y => ?_⟩
    obtain ⟨g2, m2, dx⟩ := (wk1.grow gg).yields mm hG hx y
    refine ⟨fun a => hid a ∨ a = D, _, μ', items[i], _, stB m2 (gg.trans g2), dx, hstep, fun ρ3 μ3 σ3 H3 g3 s3 sl ht => ?_⟩
    refine ⟨sl.wipe hown, fun a => hid a ∨ a = D, ρ3, μ3, _, noX, s3, ht, fun b μ4 H4 g4 m4 hb => ?_, kx_no⟩
    have gg4 : Grow μ1 H1 μ4 H4 := ((gg.trans g2).trans g3).trans g4
    have gl4 : Grow μ' H' μ4 H4 := (g2.trans g3).trans g4
    have hD4 : H4 D = some (.lst vs) := (gl4 D _ (mm.hd D (.inr rfl)).1 hDl).1
    cases b with
    | false =>
      rw [if_neg Bool.false_ne_true] at hb
      show Pv (i + 1) H4
      exact ⟨μ4, ds, vs, hD4, m4, rr.grow gl4, gg4, hb⟩
    | true =>
      rw [if_pos rfl] at hb
      show lEx T X.K noPn W0 (wE T call elt) σ3 H4 _
      refine ⟨fun a => hid a ∨ a = D, ρ3, μ4, _, noX, s3.grow g4 m4, hb, fun d μ5 v H5 g5 m5 dv hd => ?_, kx_no⟩
      have gl5 : Grow μ' H' μ5 H5 := gl4.trans g5
      have hD5 : H5 D = some (.lst vs) := (gl5 D _ (mm.hd D (.inr rfl)).1 hDl).1
      have r5 := rr.grow gl5
      have hz : vs.length < sizeLine := by
        have := hd.1
        have := r5.length
        rw [sizeLine_eq]
        omega
      refine ⟨vs, hD5, hz, μ5, ds ++ [d], vs ++ [v], upd_same, Mm.rewrite (S := mkS T X.K hid) (p := D) m5, (r5.append (.cons dv .nil)).show_ (fun a ha => upd_ne ha) fun _ _ => rfl, gD (gg4.trans g5), hd.2⟩
  · have e : i = items.length := by omega
    subst e
    rw [List.drop_length] at hcl
    obtain ⟨hG, hfin⟩ := hcl
    exact .inl ⟨(wk1.grow gg).stops mm hG, newL_fin hD hids gg mm rr hDl (kq.grow g1) hfin⟩
/-- the tests of a comprehension -/
theorem snd_tests {es : List Expr} {c : CEs} (h : PEs T call X Pn es c) (h1 : es.length ≤ 1) (tk : Takes X W) : PTs X es (lTx T X.K Pn W (wTs T call c)) := by
  match es, c, h, h1 with
  | [], .nil, _, _ =>
    refine ⟨fun pins s σ H Q I q => pts_nil.run pins s σ H Q I ?_⟩
    obtain ⟨hid, ρ, μ, Φ, Ψ, s2, hw, kt, kx⟩ := q
    exact kt true μ H (Grow.refl _ _) s2.mm hw
  | [e], .cons c .nil, h, _ =>
    refine ⟨fun pins s σ H Q I q => (pts_one (h.1.1.ptx tk)).run pins s σ H Q I ?_⟩
    obtain ⟨hid, ρ, μ, Φ, Ψ, s2, hw, kt, kx⟩ := q
    exact ⟨hid, ρ, μ, Φ, Ψ, s2, hw, kt, kx⟩
  | [], .cons _ _, h, _ => exact h.elim
  | [_], .nil, h, _ => exact h.elim
  | [_], .cons _ (.cons _ _), h, _ => exact h.2.elim
  | _ :: _ :: _, _, _, h => simp at h
/-- what a comprehension's block needs -/
structure Blk (T : Tbl) (call : ACall) (X : Cx) (elt tg iter : Expr) (ifs : List Expr) (scope : Scope) (own : List (Str × Nat)) (ce : CE) (ct : CT) (ci : CI) (cts : CEs) : Prop where
  ok : BlkOk X.N X.env.scope scope own
  own : ∀ i ∈ ct.own, i ∈ own.map (·.2)
  it : SndI T call X noPn tg iter ci
  set_ : noSet iter = true
  tg : ∀ (s : Shared) (H : Hp) (C : Addr) (cl : List (Str × Addr)) (fp : List Addr), SndG T call (X.blk s H scope (compEnvC scope cl C X.env) fp) noPn tg ct
  ts : ∀ (s : Shared) (H : Hp) (C : Addr) (cl : List (Str × Addr)) (fp : List Addr), PEs T call (X.blk s H scope (compEnvC scope cl C X.env) fp) noPn ifs cts
  one : ifs.length ≤ 1
  elt : ∀ (s : Shared) (H : Hp) (C : Addr) (cl : List (Str × Addr)) (fp : List Addr), Snd T call (X.blk s H scope (compEnvC scope cl C X.env) fp) noPn elt ce
theorem SndG.pgx {e : Expr} {c : CT} (h : SndG T call X Pn e c) : PG X e (lHx T X.K Pn c.own (wTg T call c)) := ⟨fun pins s σ H v u Q I r q => let ⟨hid, q⟩ := q; (h.pg hid).run pins s σ H v u Q I r q⟩
theorem snd_comp {m : Bool} {elt tg iter : Expr} {ifs : List Expr} {scope : Scope} {own : List (Str × Nat)} {p : Pos} {ce : CE} {ct : CT} {ci : CI} {cts : CEs} (hc : X.calm = true) (hN : X.N.Nodup) (b : Blk T call X elt tg iter ifs scope own ce ct ci cts) :
    Snd T call X noPn (.ListComp elt [⟨tg, iter, ifs, 0⟩] scope p) (.comp m ce ct own ci cts) :=
  .of rfl fun hid W tk => PE.weak (pe_lc hc hN (b.it.pi hid W tk) b.ok (fun s H C cl fp => (b.tg s H C cl fp).pgx) (fun s H C cl fp => snd_tests (W := W0) (b.ts s H C cl fp) b.one takes0) (fun s H C cl fp => (b.elt s H C cl fp).pex (W := W0) takes0) (folded_no b.set_)) (comp_read b.own)
end
end Fk
end
section
set_option maxHeartbeats 4000000
/-! Does a core term stand for the text: by a check. -/
namespace Fk
open PySem PySem.Spec PyProof.Rows L2
def glB (sc : Scope) (x : Str) : Bool := decide (sc.names.lookup x = some .globalImplicit) && !(x == ("__debug__" : Str))
def visB (sc : Scope) (x : Str) : Bool := (decide (sc.names.lookup x = some .local) || decide (sc.names.lookup x = some .cell) || decide (sc.names.lookup x = some .free)) && !(x == ("__debug__" : Str)) && !(x == ("__classdict__" : Str))
def locB (sc cs : Scope) (x : Str) : Bool := decide (sc.names.lookup x = some .local) || (decide (sc.names.lookup x = some .cell) && decide (cs.names.lookup x = some .cell))
def tyNames : List String := ["int", "bool", "str", "list", "tuple", "dict", "set", "ValueError", "LookupError", "RuntimeError", "ArithmeticError"]
theorem ty_boot : ∀ n ∈ tyNames, bootBuiltins (Str.ofString n) = some (.type n) ∧ Str.ofString n ∈ freeNames ∧ Str.ofString n ≠ "__name__" := by decide +kernel
def icB (T : Tbl) (sc : Scope) (i : IC) (e : Expr) : Bool := match e with
  | .Name x _ => glB sc x && (match i with
    | .ty n => decide (x = Str.ofString n) && decide (n ∈ tyNames)
    | .own c => decide (T.cls[c]? = some x))
  | _ => false
def icsB (T : Tbl) (sc : Scope) : List IC → List Expr → Bool
  | [], [] => true
  | i :: is, e :: es => icB T sc i e && icsB T sc is es
  | _, _ => false
def icaB (T : Tbl) (sc : Scope) (tp : Bool) (is : List IC) (e : Expr) : Bool := match tp, is, e with
  | false, [i], e => icB T sc i e
  | true, is, .Tuple es _ _ => !is.isEmpty && icsB T sc is es
  | _, _, _ => false
def ksB : List Key → List (Option Expr) → Bool
  | [], [] => true
  | .inl i :: ks, some (.Constant (.int j) _ _) :: es => decide (i = j) && ksB ks es
  | .inr x :: ks, some (.Constant (.str y) _ _) :: es => decide (x = y) && ksB ks es
  | _, _ => false
def conB (T : Tbl) (sc : Scope) : D → Expr → Bool
  | .non, .Constant .none _ _ => true
  | .bl b, .Constant (.bool c) _ _ => b == c
  | .int i, .Constant (.int j) _ _ => decide (i = j)
  | .str x, .Constant (.str y) _ _ => decide (x = y)
  | .ty n, e => icB T sc (.ty n) e
  | _, _ => false
/-- the keywords of such a call -/
def kwB (T : Tbl) (f j : Nat) (x : Str) (kws : List Keyword) : Bool := match T.fs[f]? with
  | some fd => decide (fd.at_ = (x, none)) && (match fd.kcs[j]? with
    | some kc => decide (kws.map (·.arg) = kc.1.map some)
    | none => false)
  | none => false
mutual
def ckE (T : Tbl) (N : List Str) : CE → Scope → Scope → Bool → Expr → Bool
  | .var i, sc, _, _, e => (match e with
    | .Name x _ => decide (N[i]? = some x) && visB sc x
    | _ => false)
  | .con d, sc, _, _, e => plainT e && conB T sc d e
  | .glo x, sc, _, _, e => (match e with
    | .Name y _ => decide (x = y) && glB sc x
    | _ => false)
  | .bin _ op a b, sc, cs, cm, e => (match e with
    | .BinOp l op' r _ => decide (op = op') && (ckE T N a sc cs cm l && ckE T N b sc cs cm r)
    | _ => false)
  | .neg a, sc, cs, cm, e => (match e with
    | .UnaryOp .USub x _ => ckE T N a sc cs cm x
    | _ => false)
  | .cmp op a b, sc, cs, cm, e => (match e with
    | .Compare l [op'] [r] _ => cm && (decide (op = op') && (!(behindInMarks op' r) && (ckE T N a sc cs cm l && ckE T N b sc cs cm r)))
    | _ => false)
  | .chain o1 o2 a b c, sc, cs, cm, e => (match e with
    | .Compare l [p1, p2] [r1, r2] _ => decide (o1 = p1) && (decide (o2 = p2) && (!(lastMarks [p1, p2] [r1, r2]) && (ckE T N a sc cs cm l && (ckE T N b sc cs cm r1 && ckE T N c sc cs cm r2))))
    | _ => false)
  | .bop o es, sc, cs, cm, e => (match e with
    | .BoolOp o' xs _ => decide (o = o') && (!xs.isEmpty && ckEs T N es sc cs cm xs)
    | _ => false)
  | .not a, sc, cs, cm, e => (match e with
    | .UnaryOp .Not x _ => ckE T N a sc cs cm x
    | _ => false)
  | .ite t a b, sc, cs, cm, e => (match e with
    | .IfExp x y z _ => ckE T N t sc cs cm x && (ckE T N a sc cs cm y && ckE T N b sc cs cm z)
    | _ => false)
  | .tup es, sc, cs, cm, e => (match e with
    | .Tuple xs _ _ => ckEs T N es sc cs cm xs
    | _ => false)
  | .lst _ es, sc, cs, cm, e => (match e with
    | .List xs _ => ckEs T N es sc cs cm xs
    | _ => false)
  | .dct _ ks vs, sc, cs, cm, e => (match e with
    | .Dict ke xs _ => ksB ks ke && (decide (ke.length = xs.length) && (decide (ks.length ≤ 15) && (decide ks.Nodup && ckEs T N vs sc cs cm xs)))
    | _ => false)
  | .sub a i, sc, cs, cm, e => (match e with
    | .Subscript x y _ => noSlice y && (ckE T N a sc cs cm x && ckE T N i sc cs cm y)
    | _ => false)
  | .slc a lo hi, sc, cs, cm, e => (match e with
    | .Subscript x (.Slice l h none _) _ => ckE T N a sc cs cm x && (ckO T N lo sc cs cm l && ckO T N hi sc cs cm h)
    | _ => false)
  | .blt f es, sc, cs, cm, e => (match e with
    | .Call (.Name x _) (y :: ys) [] _ => cm && (decide (x = bfName f) && (glB sc x && ckEs T N es sc cs cm (y :: ys)))
    | _ => false)
  | .isi a tp ts, sc, cs, cm, e => (match e with
    | .Call (.Name x _) [y, z] [] _ => decide (x = "isinstance") && (glB sc x && (noStar y && (noStar z && (decide (ts.length < 1000) && (icaB T sc tp ts z && ckE T N a sc cs cm y)))))
    | _ => false)
  | .call f es, sc, cs, cm, e => (match e with
    | .Call (.Name x _) ys [] _ => cm && (glB sc x && (decide ((T.fs[f]?.map (·.at_)) = some (x, none)) && ckEs T N es sc cs cm ys))
    | _ => false)
  | .kcall f j es, sc, cs, cm, e => (match e with
    | .Call (.Name x _) [] kws _ => cm && (glB sc x && (kwB T f j x kws && ckEs T N es sc cs cm (kws.map (·.value))))
    | _ => false)
  | .meth o m es, sc, cs, cm, e => (match e with
    | .Call (.Attribute x mn apos) ys [] pos => cm && (decide (mN T m = mn) && (decide (mn ≠ "") && (noSup x && (decide (ys.length < 30) && ((apos.endLine == pos.line) && (ckE T N o sc cs cm x && ckEs T N es sc cs cm ys))))))
    | _ => false)
  | .new c es, sc, cs, cm, e => (match e with
    | .Call (.Name x _) ys [] _ => cm && (glB sc x && (decide (T.cls[c]? = some x) && ckEs T N es sc cs cm ys))
    | _ => false)
  | .leno o, sc, cs, cm, e => (match e with
    | .Call (.Name x _) [y] [] _ => cm && (decide (x = "len") && (glB sc x && (noStar y && ckE T N o sc cs cm y)))
    | _ => false)
  | .bm f o es, sc, cs, cm, e => (match e with
    | .Call (.Attribute x mn apos) ys [] pos => decide (mn = bmName f) && (noSup x && (decide (ys.length + 0 + 0 < 30) && ((apos.endLine == pos.line) && (ckE T N o sc cs cm x && ckEs T N es sc cs cm ys))))
    | _ => false)
  | .attr o f, sc, cs, cm, e => (match e with
    | .Attribute x fnm _ => decide (f < T.flds.length) && (decide (fN T f = fnm) && (noSup x && ckE T N o sc cs cm x))
    | _ => false)
  | .comp _ elt tg own it ts, sc, cs, cm, e => (match e with
    | .ListComp xe [⟨xt, xi, xifs, n⟩] scope _ => cm && (decide (n = 0) && (blkC N sc scope own && (tg.own.all (fun i => decide (i ∈ own.map (·.2))) && (noSet xi && (decide (xifs.length ≤ 1) && (ckI T N it sc cs cm xt xi &&
        (ckT T N tg (relS scope sc) scope cm xt && (ckEs T N ts (relS scope sc) scope cm xifs && ckE T N elt (relS scope sc) scope cm xe))))))))
    | _ => false)
  | .gdget x i, sc, cs, cm, e => (match e with
    | .Subscript (.Name y _) ix _ => decide (x = y) && (glB sc y && ((T.gds x).isSome && (noSlice ix && ckE T N i sc cs cm ix)))
    | _ => false)
  | .gdin neg x i, sc, cs, cm, e => (match e with
    | .Compare l [op] [.Name y p] _ => decide (x = y) && (glB sc y && ((T.gds x).isSome && (decide (op = if neg = true then .NotIn else .In) && (!(behindInMarks op (.Name y p)) && ckE T N i sc cs cm l))))
    | _ => false)
  | .frz a, sc, cs, cm, e => plainT e && ckE T N a sc cs cm e
  | .xisi i tp ts, sc, _, _, e => (match e with
    | .Call (.Name x _) [.Name y _, z] [] _ => decide (x = "isinstance") && (glB sc x && (decide (N[i]? = some y) && (visB sc y && (noStar z && (decide (ts.length < 1000) && icaB T sc tp ts z)))))
    | _ => false)
  | .xattr i f, sc, _, _, e => (match e with
    | .Attribute (.Name y _) fnm _ => decide (f < T.flds.length) && (decide (fN T f = fnm) && (decide (N[i]? = some y) && visB sc y))
    | _ => false)
  | .no, _, _, _, _ => true
def ckEs (T : Tbl) (N : List Str) : CEs → Scope → Scope → Bool → List Expr → Bool
  | .nil, _, _, _, es => es.isEmpty
  | .cons c cs', sc, cs, cm, es => (match es with
    | [] => false
    | e :: es => noStar e && (ckE T N c sc cs cm e && ckEs T N cs' sc cs cm es))
def ckO (T : Tbl) (N : List Str) : CO → Scope → Scope → Bool → Option Expr → Bool
  | .no, _, _, _, e => e.isNone
  | .some c, sc, cs, cm, e => (match e with
    | none => false
    | some e => ckE T N c sc cs cm e)
def ckT (T : Tbl) (N : List Str) : CT → Scope → Scope → Bool → Expr → Bool
  | .nm i, sc, cs, _, e => (match e with
    | .Name x _ => decide (N[i]? = some x) && locB sc cs x
    | _ => false)
  | .sub a i, sc, cs, cm, e => (match e with
    | .Subscript x y _ => noSlice y && (ckE T N a sc cs cm x && ckE T N i sc cs cm y)
    | _ => false)
  | .att o f, sc, cs, cm, e => (match e with
    | .Attribute x fnm _ => decide (f < T.flds.length) && (decide (fN T f = fnm) && ckE T N o sc cs cm x)
    | _ => false)
  | .tup ts, sc, cs, cm, e => (match e with
    | .Tuple xs _ _ => cm && ckTs T N ts sc cs cm xs
    | _ => false)
  | .star i j, sc, cs, cm, e => (match e with
    | .Tuple [.Name x _, .Starred (.Name y _) _] _ _ => cm && (decide (N[i]? = some x) && (decide (N[j]? = some y) && (locB sc cs x && locB sc cs y)))
    | _ => false)
def ckTs (T : Tbl) (N : List Str) : CTs → Scope → Scope → Bool → List Expr → Bool
  | .nil, _, _, _, es => es.isEmpty
  | .cons c cs', sc, cs, cm, es => (match es with
    | [] => false
    | e :: es => noStar e && (ckT T N c sc cs cm e && ckTs T N cs' sc cs cm es))
def ckI (T : Tbl) (N : List Str) : CI → Scope → Scope → Bool → Expr → Expr → Bool
  | .seq c, sc, cs, cm, _, e => ckE T N c sc cs cm e
  | .range1 a, sc, cs, cm, _, e => (match e with
    | .Call (.Name x _) [y] [] _ => decide (x = "range") && (glB sc x && (noStar y && ckE T N a sc cs cm y))
    | _ => false)
  | .range2 a b, sc, cs, cm, _, e => (match e with
    | .Call (.Name x _) [y, z] [] _ => decide (x = "range") && (glB sc x && (noStar y && (noStar z && (ckE T N a sc cs cm y && ckE T N b sc cs cm z))))
    | _ => false)
  | .enum a, sc, cs, cm, tg, e => (match tg, e with
    | .Tuple _ _ _, .Call (.Name x _) [y] [] _ => decide (x = "enumerate") && (glB sc x && (noStar y && ckE T N a sc cs cm y))
    | _, _ => false)
  | .zip a b, sc, cs, cm, tg, e => (match tg, e with
    | .Tuple _ _ _, .Call (.Name x _) [y, z] [] _ => decide (x = "zip") && (glB sc x && (noStar y && (noStar z && (ckE T N a sc cs cm y && ckE T N b sc cs cm z))))
    | _, _ => false)
end
end Fk
end
section
set_option maxHeartbeats 8000000
/-! The check is right. -/
namespace Fk
open PySem PySem.Spec PyProof.Rows L2
section
variable {T : Tbl} {call : ACall} {k : Nat} {N : List Str} {sc cs : Scope} {X : Cx} {cm : Bool} {Pn : PX}
theorem and2 {a b : Bool} (h : (a && b) = true) : a = true ∧ b = true := Bool.and_eq_true_iff.mp h
theorem nots {b : Bool} (h : (!b) = true) : b = false := by cases b <;> first | rfl | cases h
theorem glB_ok (st : Site T call k N sc cs cm Pn X) {x : Str} (h : glB sc x = true) : Gl X x ∧ (x == ("__debug__" : Str)) = false := by
  obtain ⟨h1, h2⟩ := and2 h
  refine ⟨?_, nots h2⟩
  show X.env.scope.names.lookup x = _
  rw [st.hsc]
  exact of_decide_eq_true h1
theorem visB_ok (st : Site T call k N sc cs cm Pn X) {x : Str} (h : visB sc x = true) : Vis X.env.scope x ∧ (x == ("__debug__" : Str)) = false ∧ (x == ("__classdict__" : Str)) = false := by
  obtain ⟨h1, h3⟩ := and2 h
  obtain ⟨h1, h2⟩ := and2 h1
  refine ⟨?_, nots h2, nots h3⟩
  rw [st.hsc]
  rcases Bool.or_eq_true_iff.mp h1 with h | h
  · rcases Bool.or_eq_true_iff.mp h with h | h
    · exact .inl (of_decide_eq_true h)
    · exact .inr (.inl (of_decide_eq_true h))
  · exact .inr (.inr (of_decide_eq_true h))
theorem locB_ok (st : Site T call k N sc cs cm Pn X) {x : Str} (h : locB sc cs x = true) : Loc X.env.scope x ∧ (X.fn x = true ∨ X.env.scope.names.lookup x = some .local) := by
  rw [st.hsc]
  rcases Bool.or_eq_true_iff.mp h with h | h
  · exact ⟨.inl (of_decide_eq_true h), .inr (of_decide_eq_true h)⟩
  · obtain ⟨h1, h2⟩ := and2 h
    exact ⟨.inr (of_decide_eq_true h1), .inl (st.fn x (of_decide_eq_true h2))⟩
theorem Site.block (st : Site T call k N sc cs true noPn X) (scope : Scope) (s : Shared) (H : Hp) (C : Addr) (cl : List (Str × Addr)) (fp : List Addr) :
    Site T call k N (relS scope sc) scope true noPn (X.blk s H scope (compEnvC scope cl C X.env) fp) where
  hN := st.hN
  nd := st.nd
  hsc := by
    show relS scope X.env.scope = _
    rw [st.hsc]
  fn := fun x h => by
    show (scope.names.lookup x == some .cell) = true
    rw [h]
    rfl
  calm := fun _ => ⟨(st.calm rfl).1, (st.calm rfl).2.1, rfl⟩
  gd := st.gd
  un := st.un
  tk := st.tk
  fs := st.fs
  ks := st.ks
  xs := st.xs
  pn := fun _ _ _ h => h.elim
theorem icB_ok (st : Site T call k N sc cs cm Pn X) {i : IC} {e : Expr} (h : icB T sc i e = true) : ∃ x p, e = .Name x p ∧ IcAt T X i x := by
  unfold icB at h
  split at h
  · rename_i x p
    obtain ⟨h1, h2⟩ := and2 h
    obtain ⟨g1, g2⟩ := glB_ok st h1
    refine ⟨x, p, rfl, g1, g2, ?_⟩
    cases i with
    | ty n =>
      obtain ⟨h3, h4⟩ := and2 h2
      obtain ⟨b1, b2, b3⟩ := ty_boot n (of_decide_eq_true h4)
      have e := of_decide_eq_true h3
      subst e
      exact ⟨st.tk.free _ b2, b1, b3⟩
    | own c => exact of_decide_eq_true h2
  · cases h
theorem icsB_ok (st : Site T call k N sc cs cm Pn X) : ∀ {is : List IC} {es : List Expr}, icsB T sc is es = true → IcsAt T X is es
  | [], [], _ => .nil
  | i :: is, e :: es, h => by
    obtain ⟨h1, h2⟩ := and2 h
    obtain ⟨x, p, rfl, q⟩ := icB_ok st h1
    exact .cons q (icsB_ok st h2)
  | [], _ :: _, h => by cases h
  | _ :: _, [], h => by cases h
theorem icaB_ok (st : Site T call k N sc cs cm Pn X) {tp : Bool} {is : List IC} {e : Expr} (h : icaB T sc tp is e = true) : IcArg T X tp is e := by
  unfold icaB at h
  split at h
  · obtain ⟨x, p, rfl, q⟩ := icB_ok st h
    exact .one q
  · obtain ⟨h1, h2⟩ := and2 h
    exact .tup (icsB_ok st h2) (by
      rintro rfl
      exact absurd h1 (by decide))
  · cases h
theorem ksB_ok {ks : List Key} : ∀ {es : List (Option Expr)}, ksB ks es = true → KsAt ks es := by
  induction ks with
  | nil =>
    intro es h
    cases es with
    | nil => exact .nil
    | cons _ _ => cases h
  | cons k ks ih =>
    intro es h
    unfold ksB at h
    split at h
    · rename_i e
      cases e
    · rename_i i ks' j kk pp es' e
      cases e
      obtain ⟨h1, h2⟩ := and2 h
      have e := of_decide_eq_true h1
      subst e
      exact .int (ih h2)
    · rename_i i ks' j kk pp es' e
      cases e
      obtain ⟨h1, h2⟩ := and2 h
      have e := of_decide_eq_true h1
      subst e
      exact .str (ih h2)
    · cases h
theorem conB_ok (st : Site T call k N sc cs cm Pn X) {d : D} {e : Expr} (hp : plainT e = true) (h : conB T sc d e = true) : Snd T call X Pn e (.con d) := by
  unfold conB at h
  split at h
  · exact snd_con rfl pe_non fun _ _ _ => .non
  · rename_i b c kk pp
    have e : b = c := beq_iff_eq.mp h
    subst e
    exact snd_con rfl pe_bl fun _ _ _ => .bl _
  · have e := of_decide_eq_true h
    subst e
    exact snd_con rfl pe_int fun _ _ _ => .int _
  · have e := of_decide_eq_true h
    subst e
    exact snd_con rfl pe_str fun _ _ _ => .str _
  · obtain ⟨x, p, rfl, q⟩ := icB_ok st h
    exact snd_con rfl (pe_ic st.tk q) fun _ _ _ => .ty _
  · cases h
theorem Site.tt (st : Site T call k N sc cs cm Pn X) (h : cm = true) : Pn = noPn := by
  subst h
  exact (st.calm rfl).2.2
/-- calls, as Snd -/
theorem snd_call {f : Nat} {fd : Fdef} {x : Str} {p pos : Pos} {es : List Expr} {c : CEs} (st : Site T call k N sc cs true noPn X) (hf : T.fs[f]? = some fd) (ha : fd.at_ = (x, none)) (hg : Gl X x) (hd : (x == ("__debug__" : Str)) = false) (h : PEs T call X noPn es c) : Snd T call X noPn (.Call (.Name x p) es [] pos) (.call f c) :=
  .of rfl fun hid W tk => pe_callW st tk hf ha hg hd h.star (h.pa tk) (fun e => h.nil0 e)
theorem kw_map {pos : Pos} {env : PySem.Env} : ∀ {kws : List Keyword}, (backToKw pos (keywordEach kws env)).map (·.1) = kws.map (·.arg)
  | [] => rfl
  | ⟨a, e, p⟩ :: kws => congrArg (a :: ·) (kw_map (kws := kws))
theorem snd_kcall {f j : Nat} {fd : Fdef} {kc : List Str × List Nat} {x : Str} {p pos : Pos} {kws : List Keyword} {c : CEs} (st : Site T call k N sc cs true noPn X) (hf : T.fs[f]? = some fd) (hj : fd.kcs[j]? = some kc) (ha : fd.at_ = (x, none)) (hg : Gl X x) (hd : (x == ("__debug__" : Str)) = false)
    (hw : kws.map (·.arg) = kc.1.map some) (h : PEs T call X noPn (kws.map (·.value)) c) : Snd T call X noPn (.Call (.Name x p) [] kws pos) (.kcall f j c) := by
  have e1 : (backToKw pos (keywordEach kws X.env)).map (·.1) = kc.1.map some := kw_map.trans hw
  have a1 : (backToKw pos (keywordEach kws X.env)).all (·.1.isSome) = true := by
    have : ((backToKw pos (keywordEach kws X.env)).map (·.1)).all (·.isSome) = true := by rw [e1]; simp
    simpa [List.all_map, Function.comp_def] using this
  have a2 : (backToKw pos (keywordEach kws X.env)).filterMap (·.1) = kc.1 := by
    have : ((backToKw pos (keywordEach kws X.env)).map (·.1)).filterMap id = kc.1 := by rw [e1]; simp [List.filterMap_map]
    simpa [List.filterMap_map, Function.comp_def] using this
  have a3 : (backToKw pos (keywordEach kws X.env)).any (·.1.isNone) = false := by
    have : ((backToKw pos (keywordEach kws X.env)).map (·.1)).any (·.isNone) = false := by rw [e1]; simp
    simpa [List.any_map, Function.comp_def] using this
  refine .of rfl fun hid W tk => ?_
  have a4 : ((backTo pos (starEach [] X.env)).any (·.1) || (backToKw pos (keywordEach kws X.env)).any (·.1.isNone)) = false := by rw [a3]; rfl
  have pe := pe_kcallW (hid := hid) (W := W) (p := p) st tk hf (List.mem_of_getElem? hj) ha hg hd (h.pk (hid := hid) (W := W) tk) a1 a2 a4
  refine PE.weak pe fun σ H Q q => ?_
  obtain ⟨ρ, μ, Φ, Ψ, s2, hw, kq, kx⟩ := q
  refine ⟨ρ, μ, Φ, Ψ, s2, ?_, kq, kx⟩
  have e2 : wE T call (.kcall f j c) ρ μ Φ Ψ = wEs T call c ρ μ (fun ds μ1 => match T.fs[f]? with
    | some fd => (match fd.kcs[j]? with
      | some kc => ds.length = kc.1.length ∧ call f (kc.2.map fun i => ds.getD i .non) μ1 Φ Ψ
      | none => False)
    | none => False) Ψ := rfl
  rw [e2, hf] at hw
  dsimp only at hw
  rw [hj] at hw
  exact hw
theorem snd_meth {m : Nat} {o : Expr} {apos pos : Pos} {es : List Expr} {co : CE} {c : CEs} (st : Site T call k N sc cs true noPn X) (hn : mN T m ≠ "") (h1 : noSup o = true) (h3 : decide (es.length < 30) = true) (h4 : (apos.endLine == pos.line) = true) (ho : Snd T call X noPn o co) (h : PEs T call X noPn es c) :
    Snd T call X noPn (.Call (.Attribute o (mN T m) apos) es [] pos) (.meth co m c) :=
  .of rfl fun hid W tk => pe_methW st tk hn h1 h.star h3 h4 (ho.pe hid W tk) (h.pa tk) (fun e => h.nil0 e)
theorem snd_new {c : Nat} {x : Str} {p pos : Pos} {es : List Expr} {ces : CEs} (st : Site T call k N sc cs true noPn X) (hx : T.cls[c]? = some x) (hg : Gl X x) (hd : (x == ("__debug__" : Str)) = false) (h : PEs T call X noPn es ces) : Snd T call X noPn (.Call (.Name x p) es [] pos) (.new c ces) :=
  .of rfl fun hid W tk => pe_newW st tk hx hg hd h.star (h.pa tk) (fun e => h.nil0 e)
theorem snd_leno {o : Expr} {p pos : Pos} {co : CE} (st : Site T call k N sc cs true noPn X) (hg : Gl X "len") (hs : noStar o = true) (ho : Snd T call X noPn o co) : Snd T call X noPn (.Call (.Name "len" p) [o] [] pos) (.leno co) :=
  .of rfl fun hid W tk => pe_lenoW st tk hg hs (ho.pe hid W tk)
theorem snd_isi {ea ec : Expr} {p pos : Pos} {tp : Bool} {is : List IC} {c : CE} (st : Site T call k N sc cs cm Pn X) (hg : Gl X "isinstance") (ha : noStar ea = true) (hb : noStar ec = true) (hz : is.length < sizeLine) (ic : IcArg T X tp is ec) (h : Snd T call X Pn ea c) :
    Snd T call X Pn (.Call (.Name "isinstance" p) [ea, ec] [] pos) (.isi c tp is) :=
  .of rfl fun hid W tk => pe_isiW st hg ha hb hz ic (h.pe hid W tk)
theorem snd_attr {f : Nat} {o : Expr} {pos : Pos} {c : CE} (st : Site T call k N sc cs cm Pn X) (hf : f < T.flds.length) (hb : noSup o = true) (h : Snd T call X Pn o c) : Snd T call X Pn (.Attribute o (fN T f) pos) (.attr c f) :=
  .of rfl fun hid W tk => pe_attrW st hf hb (h.pe hid W tk)
theorem snd_xisi {i : Nat} {x : Str} {ec : Expr} {p p2 pos : Pos} {tp : Bool} {is : List IC} (st : Site T call k N sc cs cm Pn X) (hg : Gl X "isinstance") (hi : X.N[i]? = some x) (hv : Vis X.env.scope x) (hd : (x == ("__debug__" : Str)) = false) (hcd : (x == ("__classdict__" : Str)) = false)
    (hb : noStar ec = true) (hz : is.length < sizeLine) (ic : IcArg T X tp is ec) : Snd T call X Pn (.Call (.Name "isinstance" p) [.Name x p2, ec] [] pos) (.xisi i tp is) :=
  .of rfl fun hid W tk => pe_xisiW st hg hi hv hd hcd hb hz ic
theorem snd_xattr {i f : Nat} {x : Str} {p pos : Pos} (st : Site T call k N sc cs cm Pn X) (hf : f < T.flds.length) (hi : X.N[i]? = some x) (hv : Vis X.env.scope x) (hd : (x == ("__debug__" : Str)) = false) (hcd : (x == ("__classdict__" : Str)) = false) : Snd T call X Pn (.Attribute (.Name x p) (fN T f) pos) (.xattr i f) :=
  .of rfl fun hid W tk => pe_xattrW st hf hi hv hd hcd
/-! the module's tables -/
theorem ix_kd {d : Addr} {es : Array DictEntry} {n : Nat} (D : KDict X.K X.w d es n) : IxR X (fun x y H Q => ∃ (z : Str) (u0 : Value) (v0 : V), x = .ref d ∧ y = .str z ∧ PySem.W.nsIn X.K d z = some (some u0) ∧ RelV v0 u0 ∧ Q v0 H) := by
  intro value slice pins s σ H x y v u Q I rx ry h hs
  have h2 := h
  obtain ⟨z, u0, v0, rfl, rfl, _⟩ := h2
  cases rx
  exact tail_any (kd_type D I) PySem.F.slot_dict_getitem.lookup (op_item_kd D pins s σ H (.ref d) (.str z) _ u Q I rfl ry h) hs
theorem snd_gdget {x : Str} {p pos : Pos} {ix : Expr} {c : CE} (st : Site T call k N sc cs cm Pn X) (hg : Gl X x) (hd : (x == ("__debug__" : Str)) = false) (hs : (T.gds x).isSome = true) (hn : noSlice ix = true) (h : Snd T call X Pn ix c) : Snd T call X Pn (.Subscript (.Name x p) ix pos) (.gdget x c) := by
  obtain ⟨kvs, hk⟩ := Option.isSome_iff_exists.mp hs
  obtain ⟨a, es, n, hm, KD, h1, h2⟩ := st.tk.gds x kvs hk
  refine .of rfl fun hid W tk => PE.weak (pe_ix (ix_kd KD) (pe_glob (v := .ref a) hg hm rfl hd) (h.pe hid W tk) (plainIx_of hn)) fun σ H Q q => ?_
  obtain ⟨ρ, μ, Φ, Ψ, s2, hw, kq, kx⟩ := q
  refine lE.bind s2 hw kx fun y μ1 vy H1 g s3 r kx1 b => ?_
  rw [hk] at b
  cases y <;> first
    | exact b.elim
    | skip
  rename_i z
  dsimp only at b
  split at b
  · rename_i d hd0
    obtain ⟨u, v, e1, e2, e3⟩ := h1 z d hd0
    cases r
    exact ⟨z, u, v, rfl, rfl, e1, e2, kq _ _ _ _ g s3.mm (e3 hid μ1 H1) b⟩
  · exact b.elim
theorem snd_gdin {x : Str} {p pos : Pos} {ix : Expr} {c : CE} {neg : Bool} {op : CmpOp} (st : Site T call k N sc cs cm Pn X) (hg : Gl X x) (hd : (x == ("__debug__" : Str)) = false) (hs : (T.gds x).isSome = true) (ho : op = if neg = true then .NotIn else .In) (hm' : behindInMarks op (.Name x p) = false)
    (h : Snd T call X Pn ix c) : Snd T call X Pn (.Compare ix [op] [.Name x p] pos) (.gdin neg x c) := by
  obtain ⟨kvs, hk⟩ := Option.isSome_iff_exists.mp hs
  obtain ⟨a, es, n, hm, KD, h1, h2⟩ := st.tk.gds x kvs hk
  have ho2 : OpR X (compareOp op) (fun x y H Q => ∃ (z : Str) (r : Option Value), x = .str z ∧ y = .ref a ∧ PySem.W.nsIn X.K a z = some r ∧ Q (.bl (if neg = true then !r.isSome else r.isSome)) H) := by
    subst ho
    cases neg with
    | true => exact op_notIn_kd KD
    | false => exact op_in_kd KD
  have rd : ∀ (hid : Addr → Prop) (W : WX) σ H Q, lE (mkS T X.K hid) Pn W (wE T call (.gdin neg x c)) σ H Q → tOp (fun x y H Q => ∃ (z : Str) (r : Option Value), x = .str z ∧ y = .ref a ∧ PySem.W.nsIn X.K a z = some r ∧ Q (.bl (if neg = true then !r.isSome else r.isSome)) H) (lE (mkS T X.K hid) Pn W (wE T call c)) (tC (.ref a)) σ H Q := by
    intro hid W σ H Q q
    obtain ⟨ρ, μ, Φ, Ψ, s2, hw, kq, kx⟩ := q
    refine lE.bind s2 hw kx fun y μ1 vy H1 g s3 r kx1 b => ?_
    rw [hk] at b
    cases y <;> first
      | exact b.elim
      | skip
    rename_i z
    cases r
    cases e : kvs.lookup z with
    | none =>
      dsimp only at b
      rw [e] at b
      exact ⟨z, none, rfl, rfl, h2 z e, kq _ _ _ _ g s3.mm (.bl _) b⟩
    | some d =>
      dsimp only at b
      rw [e] at b
      obtain ⟨u, v, e1, _, _⟩ := h1 z d e
      exact ⟨z, some u, rfl, rfl, e1, kq _ _ _ _ g s3.mm (.bl _) b⟩
  exact ⟨fun hid W tk => PE.weak (pe_cmpR ho2 (h.pe hid W tk) (pe_glob (v := .ref a) hg hm rfl hd) hm') (rd hid W),
    fun hid W tk => PT.weak (pt_cmpR ho2 (h.pe hid W tk) (pe_glob (v := .ref a) hg hm rfl hd) hm') fun σ H Q q => rd hid W σ H _ (lT_tB (c := .gdin neg x c) σ H Q q)⟩
theorem lineSz {n : Nat} (h : n < 1000) : n < sizeLine := Nat.lt_of_lt_of_le h line1000
end
end Fk
end
section
set_option maxHeartbeats 8000000
/-! The check is right: all expressions. -/
namespace Fk
open PySem PySem.Spec PyProof.Rows L2
theorem CT.ownB {tg : CT} {own : List (Str × Nat)} (h : (tg.own.all fun i => decide (i ∈ own.map (·.2))) = true) : ∀ i ∈ tg.own, i ∈ own.map (·.2) := fun i hi => of_decide_eq_true (List.all_eq_true.mp h i hi)
theorem ckTs_len {T : Tbl} {N : List Str} : ∀ {c : CTs} {es : List Expr} {sc cs : Scope} {cm : Bool}, ckTs T N c sc cs cm es = true → c.len = es.length
  | .nil, [], _, _, _, _ => rfl
  | .nil, _ :: _, _, _, _, h => by cases h
  | .cons c cs', [], _, _, _, h => by cases h
  | .cons c cs', e :: es, sc, cs, cm, h => by
    obtain ⟨h1, h2⟩ := and2 (show (noStar e && (ckT T N c sc cs cm e && ckTs T N cs' sc cs cm es)) = true from h)
    obtain ⟨h2, h3⟩ := and2 h2
    exact congrArg (· + 1) (ckTs_len h3)
mutual
theorem sndE {T : Tbl} {call : ACall} {k : Nat} {N : List Str} : ∀ (c : CE) {sc cs : Scope} {cm : Bool} {Pn : PX} {X : Cx} {e : Expr}, Site T call k N sc cs cm Pn X → ckE T N c sc cs cm e = true → Snd T call X Pn e c
  | .var i, sc, cs, cm, Pn, X, e, st, h => by
    unfold ckE at h
    split at h
    · obtain ⟨h1, h2⟩ := and2 h
      obtain ⟨v1, v2, v3⟩ := visB_ok st h2
      exact snd_var (by rw [st.hN]; exact of_decide_eq_true h1) v1 v2 v3
    · cases h
  | .con d, sc, cs, cm, Pn, X, e, st, h => by
    unfold ckE at h
    obtain ⟨h1, h2⟩ := and2 h
    exact conB_ok st h1 h2
  | .glo x, sc, cs, cm, Pn, X, e, st, h => by
    unfold ckE at h
    split at h
    · obtain ⟨h1, h2⟩ := and2 h
      have e := of_decide_eq_true h1
      subst e
      obtain ⟨g1, g2⟩ := glB_ok st h2
      refine .of rfl fun hid W tk => ⟨fun pins s σ H Q I h => ?_⟩
      obtain ⟨ρ, μ, Φ, Ψ, s2, hw, kq, kx⟩ := h
      have hw2 : (match T.glo x with
        | some d => Φ d μ
        | none => False) := hw
      split at hw2
      · rename_i d q
        obtain ⟨u, v, hm, rv, dd⟩ := st.tk.glo x d q
        exact ld_glob I g1 hm ⟨v, H, I, rv, kq.now s2.mm (dd _ _ _) hw2⟩ g2
      · exact hw2.elim
    · cases h
  | .bin m op a b, sc, cs, cm, Pn, X, e, st, h => by
    unfold ckE at h
    split at h
    · obtain ⟨h1, h2⟩ := and2 h
      obtain ⟨h2, h3⟩ := and2 h2
      have e := of_decide_eq_true h1
      subst e
      exact snd_bin (sndE a st h2) (sndE b st h3)
    · cases h
  | .neg a, sc, cs, cm, Pn, X, e, st, h => by
    unfold ckE at h
    split at h
    · exact snd_neg (sndE a st h)
    · cases h
  | .cmp op a b, sc, cs, cm, Pn, X, e, st, h => by
    unfold ckE at h
    split at h
    · obtain ⟨h0, h⟩ := and2 h
      have e0 := st.tt h0
      subst h0 e0
      obtain ⟨h1, h⟩ := and2 h
      obtain ⟨h2, h⟩ := and2 h
      obtain ⟨h3, h4⟩ := and2 h
      have e := of_decide_eq_true h1
      subst e
      exact snd_cmp st (sndE a st h3) (sndE b st h4) (nots h2)
    · cases h
  | .chain o1 o2 a b c, sc, cs, cm, Pn, X, e, st, h => by
    unfold ckE at h
    split at h
    · obtain ⟨h1, h⟩ := and2 h
      obtain ⟨h2, h⟩ := and2 h
      obtain ⟨h3, h⟩ := and2 h
      obtain ⟨h4, h⟩ := and2 h
      obtain ⟨h5, h6⟩ := and2 h
      have e1 := of_decide_eq_true h1
      have e2 := of_decide_eq_true h2
      subst e1 e2
      exact snd_chain st (sndE a st h4) (sndE b st h5) (sndE c st h6) (nots h3)
    · cases h
  | .bop o es, sc, cs, cm, Pn, X, e, st, h => by
    unfold ckE at h
    split at h
    · rename_i o' xs p
      obtain ⟨h1, h⟩ := and2 h
      obtain ⟨h2, h3⟩ := and2 h
      have e1 := of_decide_eq_true h1
      subst e1
      exact snd_bop (sndEs es st h3) (by
        rintro rfl
        exact absurd h2 (by decide))
    · cases h
  | .not a, sc, cs, cm, Pn, X, e, st, h => by
    unfold ckE at h
    split at h
    · exact snd_not (sndE a st h)
    · cases h
  | .ite t a b, sc, cs, cm, Pn, X, e, st, h => by
    unfold ckE at h
    split at h
    · obtain ⟨h1, h⟩ := and2 h
      obtain ⟨h2, h3⟩ := and2 h
      exact snd_ite (sndE t st h1) (sndE a st h2) (sndE b st h3)
    · cases h
  | .tup es, sc, cs, cm, Pn, X, e, st, h => by
    unfold ckE at h
    split at h
    · exact snd_tup (sndEs es st h)
    · cases h
  | .lst m es, sc, cs, cm, Pn, X, e, st, h => by
    unfold ckE at h
    split at h
    · exact snd_lst (sndEs es st h)
    · cases h
  | .dct m ks vs, sc, cs, cm, Pn, X, e, st, h => by
    unfold ckE at h
    split at h
    · obtain ⟨h1, h⟩ := and2 h
      obtain ⟨h2, h⟩ := and2 h
      obtain ⟨h3, h⟩ := and2 h
      obtain ⟨h4, h5⟩ := and2 h
      exact snd_dct (sndEs vs st h5) (ksB_ok h1) (of_decide_eq_true h2) (of_decide_eq_true h3) (of_decide_eq_true h4)
    · cases h
  | .sub a i, sc, cs, cm, Pn, X, e, st, h => by
    unfold ckE at h
    split at h
    · obtain ⟨h1, h⟩ := and2 h
      obtain ⟨h2, h3⟩ := and2 h
      exact snd_sub st h1 (sndE a st h2) (sndE i st h3)
    · cases h
  | .slc a lo hi, sc, cs, cm, Pn, X, e, st, h => by
    unfold ckE at h
    split at h
    · obtain ⟨h1, h⟩ := and2 h
      obtain ⟨h2, h3⟩ := and2 h
      exact snd_slc (sndE a st h1) (sndO lo st h2) (sndO hi st h3)
    · cases h
  | .blt f es, sc, cs, cm, Pn, X, e, st, h => by
    unfold ckE at h
    split at h
    · obtain ⟨h0, h⟩ := and2 h
      have e0 := st.tt h0
      subst h0 e0
      obtain ⟨h1, h⟩ := and2 h
      obtain ⟨h2, h3⟩ := and2 h
      have e1 := of_decide_eq_true h1
      subst e1
      exact snd_blt st (glB_ok st h2).1 (sndEs es st h3)
    · cases h
  | .isi a tp ts, sc, cs, cm, Pn, X, e, st, h => by
    unfold ckE at h
    split at h
    · obtain ⟨h1, h⟩ := and2 h
      obtain ⟨h2, h⟩ := and2 h
      obtain ⟨h3, h⟩ := and2 h
      obtain ⟨h4, h⟩ := and2 h
      obtain ⟨h5, h⟩ := and2 h
      obtain ⟨h6, h7⟩ := and2 h
      have e1 := of_decide_eq_true h1
      subst e1
      exact snd_isi st (glB_ok st h2).1 h3 h4 (lineSz (of_decide_eq_true h5)) (icaB_ok st h6) (sndE a st h7)
    · cases h
  | .call f es, sc, cs, cm, Pn, X, e, st, h => by
    unfold ckE at h
    split at h
    · obtain ⟨h0, h⟩ := and2 h
      have e0 := st.tt h0
      subst h0 e0
      obtain ⟨h1, h⟩ := and2 h
      obtain ⟨h2, h3⟩ := and2 h
      obtain ⟨g1, g2⟩ := glB_ok st h1
      obtain ⟨fd, hf, ha⟩ := Option.map_eq_some_iff.mp (of_decide_eq_true h2)
      exact snd_call st hf ha g1 g2 (sndEs es st h3)
    · cases h
  | .kcall f j es, sc, cs, cm, Pn, X, e, st, h => by
    unfold ckE at h
    split at h
    · obtain ⟨h0, h⟩ := and2 h
      have e0 := st.tt h0
      subst h0 e0
      obtain ⟨h1, h⟩ := and2 h
      obtain ⟨h2, h3⟩ := and2 h
      obtain ⟨g1, g2⟩ := glB_ok st h1
      unfold kwB at h2
      split at h2
      · rename_i fd hf
        obtain ⟨h4, h5⟩ := and2 h2
        split at h5
        · rename_i kc hj
          exact snd_kcall st hf hj (of_decide_eq_true h4) g1 g2 (of_decide_eq_true h5) (sndEs es st h3)
        · cases h5
      · cases h2
    · cases h
  | .meth o m es, sc, cs, cm, Pn, X, e, st, h => by
    unfold ckE at h
    split at h
    · obtain ⟨h0, h⟩ := and2 h
      have e0 := st.tt h0
      subst h0 e0
      obtain ⟨h1, h⟩ := and2 h
      obtain ⟨h2, h⟩ := and2 h
      obtain ⟨h3, h⟩ := and2 h
      obtain ⟨h4, h⟩ := and2 h
      obtain ⟨h5, h⟩ := and2 h
      obtain ⟨h6, h7⟩ := and2 h
      have e1 := of_decide_eq_true h1
      subst e1
      exact snd_meth st (of_decide_eq_true h2) h3 h4 h5 (sndE o st h6) (sndEs es st h7)
    · cases h
  | .new c es, sc, cs, cm, Pn, X, e, st, h => by
    unfold ckE at h
    split at h
    · obtain ⟨h0, h⟩ := and2 h
      have e0 := st.tt h0
      subst h0 e0
      obtain ⟨h1, h⟩ := and2 h
      obtain ⟨h2, h3⟩ := and2 h
      obtain ⟨g1, g2⟩ := glB_ok st h1
      exact snd_new st (of_decide_eq_true h2) g1 g2 (sndEs es st h3)
    · cases h
  | .leno o, sc, cs, cm, Pn, X, e, st, h => by
    unfold ckE at h
    split at h
    · obtain ⟨h0, h⟩ := and2 h
      have e0 := st.tt h0
      subst h0 e0
      obtain ⟨h1, h⟩ := and2 h
      obtain ⟨h2, h⟩ := and2 h
      obtain ⟨h3, h4⟩ := and2 h
      have e1 := of_decide_eq_true h1
      subst e1
      exact snd_leno st (glB_ok st h2).1 h3 (sndE o st h4)
    · cases h
  | .bm f o es, sc, cs, cm, Pn, X, e, st, h => by
    unfold ckE at h
    split at h
    · obtain ⟨h1, h⟩ := and2 h
      obtain ⟨h3, h⟩ := and2 h
      obtain ⟨h4, h⟩ := and2 h
      obtain ⟨h5, h⟩ := and2 h
      obtain ⟨h6, h7⟩ := and2 h
      have e1 := of_decide_eq_true h1
      subst e1
      exact snd_bm (sndE o st h6) (sndEs es st h7) h3 h4 h5
    · cases h
  | .attr o f, sc, cs, cm, Pn, X, e, st, h => by
    unfold ckE at h
    split at h
    · obtain ⟨h1, h⟩ := and2 h
      obtain ⟨h2, h⟩ := and2 h
      obtain ⟨h3, h4⟩ := and2 h
      have e1 := of_decide_eq_true h2
      subst e1
      exact snd_attr st (of_decide_eq_true h1) h3 (sndE o st h4)
    · cases h
  | .comp m elt tg own it ts, sc, cs, cm, Pn, X, e, st, h => by
    unfold ckE at h
    split at h
    · rename_i xe xt xi xifs n scope p
      obtain ⟨h0, h⟩ := and2 h
      have e0 := st.tt h0
      subst h0 e0
      obtain ⟨h1, h⟩ := and2 h
      obtain ⟨h2, h⟩ := and2 h
      obtain ⟨h3, h⟩ := and2 h
      obtain ⟨h4, h⟩ := and2 h
      obtain ⟨h5, h⟩ := and2 h
      obtain ⟨h6, h⟩ := and2 h
      obtain ⟨h7, h⟩ := and2 h
      obtain ⟨h8, h9⟩ := and2 h
      have e1 := of_decide_eq_true h1
      subst e1
      have hb : BlkOk X.N X.env.scope scope own := by
        rw [st.hN, st.hsc]
        exact blkOk_by h2
      exact snd_comp (st.calm rfl).1 (by rw [st.hN]; exact st.nd) ⟨hb, CT.ownB h3, sndI it st h6, h4, fun s H C cl fp => sndG tg (st.block scope s H C cl fp) h7, fun s H C cl fp => sndEs ts (st.block scope s H C cl fp) h8, of_decide_eq_true h5,
        fun s H C cl fp => sndE elt (st.block scope s H C cl fp) h9⟩
    · cases h
  | .gdget x i, sc, cs, cm, Pn, X, e, st, h => by
    unfold ckE at h
    split at h
    · obtain ⟨h1, h⟩ := and2 h
      obtain ⟨h2, h⟩ := and2 h
      obtain ⟨h3, h⟩ := and2 h
      obtain ⟨h4, h5⟩ := and2 h
      have e1 := of_decide_eq_true h1
      subst e1
      obtain ⟨g1, g2⟩ := glB_ok st h2
      exact snd_gdget st g1 g2 h3 h4 (sndE i st h5)
    · cases h
  | .gdin neg x i, sc, cs, cm, Pn, X, e, st, h => by
    unfold ckE at h
    split at h
    · obtain ⟨h1, h⟩ := and2 h
      obtain ⟨h2, h⟩ := and2 h
      obtain ⟨h3, h⟩ := and2 h
      obtain ⟨h4, h⟩ := and2 h
      obtain ⟨h5, h6⟩ := and2 h
      have e1 := of_decide_eq_true h1
      subst e1
      obtain ⟨g1, g2⟩ := glB_ok st h2
      exact snd_gdin st g1 g2 h3 (of_decide_eq_true h4) (nots h5) (sndE i st h6)
    · cases h
  | .frz a, sc, cs, cm, Pn, X, e, st, h => by
    unfold ckE at h
    obtain ⟨h1, h2⟩ := and2 h
    exact snd_frz h1 (sndE a st h2)
  | .no, sc, cs, cm, Pn, X, e, st, h => ⟨fun hid W tk => ⟨fun pins s σ H Q I q => by
      obtain ⟨_, _, _, _, _, hw, _⟩ := q
      exact hw.elim⟩, fun hid W tk => ⟨fun pins s σ H Q I q => by
      obtain ⟨_, _, _, _, _, hw, _⟩ := q
      exact hw.elim⟩⟩
  | .xisi i tp ts, sc, cs, cm, Pn, X, e, st, h => by
    unfold ckE at h
    split at h
    · obtain ⟨h1, h⟩ := and2 h
      obtain ⟨h2, h⟩ := and2 h
      obtain ⟨h3, h⟩ := and2 h
      obtain ⟨h4, h⟩ := and2 h
      obtain ⟨h5, h⟩ := and2 h
      obtain ⟨h6, h7⟩ := and2 h
      have e1 := of_decide_eq_true h1
      subst e1
      obtain ⟨v1, v2, v3⟩ := visB_ok st h4
      exact snd_xisi st (glB_ok st h2).1 (by rw [st.hN]; exact of_decide_eq_true h3) v1 v2 v3 h5 (lineSz (of_decide_eq_true h6)) (icaB_ok st h7)
    · cases h
  | .xattr i f, sc, cs, cm, Pn, X, e, st, h => by
    unfold ckE at h
    split at h
    · obtain ⟨h1, h⟩ := and2 h
      obtain ⟨h2, h⟩ := and2 h
      obtain ⟨h3, h4⟩ := and2 h
      have e1 := of_decide_eq_true h2
      subst e1
      obtain ⟨v1, v2, v3⟩ := visB_ok st h4
      exact snd_xattr st (of_decide_eq_true h1) (by rw [st.hN]; exact of_decide_eq_true h3) v1 v2 v3
    · cases h
theorem sndEs {T : Tbl} {call : ACall} {k : Nat} {N : List Str} : ∀ (c : CEs) {sc cs : Scope} {cm : Bool} {Pn : PX} {X : Cx} {es : List Expr}, Site T call k N sc cs cm Pn X → ckEs T N c sc cs cm es = true → PEs T call X Pn es c
  | .nil, sc, cs, cm, Pn, X, es, st, h => by
    unfold ckEs at h
    cases es with
    | nil => trivial
    | cons _ _ => cases h
  | .cons c cs', sc, cs, cm, Pn, X, es, st, h => by
    unfold ckEs at h
    cases es with
    | nil => cases h
    | cons e es =>
      obtain ⟨h1, h⟩ := and2 h
      obtain ⟨h2, h3⟩ := and2 h
      exact ⟨⟨sndE c st h2, h1⟩, sndEs cs' st h3⟩
theorem sndO {T : Tbl} {call : ACall} {k : Nat} {N : List Str} : ∀ (c : CO) {sc cs : Scope} {cm : Bool} {Pn : PX} {X : Cx} {e : Option Expr}, Site T call k N sc cs cm Pn X → ckO T N c sc cs cm e = true → SndO T call X Pn e c
  | .no, sc, cs, cm, Pn, X, e, st, h => by
    unfold ckO at h
    cases e with
    | none => exact sndO_no
    | some _ => cases h
  | .some c, sc, cs, cm, Pn, X, e, st, h => by
    unfold ckO at h
    cases e with
    | none => cases h
    | some e => exact sndO_some (sndE c st h)
theorem sndG {T : Tbl} {call : ACall} {k : Nat} {N : List Str} : ∀ (c : CT) {sc cs : Scope} {cm : Bool} {Pn : PX} {X : Cx} {e : Expr}, Site T call k N sc cs cm Pn X → ckT T N c sc cs cm e = true → SndG T call X Pn e c
  | .nm i, sc, cs, cm, Pn, X, e, st, h => by
    unfold ckT at h
    split at h
    · obtain ⟨h1, h2⟩ := and2 h
      obtain ⟨l1, l2⟩ := locB_ok st h2
      exact sndG_nm (by rw [st.hN]; exact st.nd) (by rw [st.hN]; exact of_decide_eq_true h1) l1 l2
    · cases h
  | .sub a i, sc, cs, cm, Pn, X, e, st, h => by
    unfold ckT at h
    split at h
    · obtain ⟨h1, h⟩ := and2 h
      obtain ⟨h2, h3⟩ := and2 h
      exact sndG_sub st h1 (sndE a st h2) (sndE i st h3)
    · cases h
  | .att o f, sc, cs, cm, Pn, X, e, st, h => by
    unfold ckT at h
    split at h
    · obtain ⟨h1, h⟩ := and2 h
      obtain ⟨h2, h3⟩ := and2 h
      have e1 := of_decide_eq_true h2
      subst e1
      exact sndG_att st (of_decide_eq_true h1) (sndE o st h3)
    · cases h
  | .tup ts, sc, cs, cm, Pn, X, e, st, h => by
    unfold ckT at h
    split at h
    · obtain ⟨h0, h1⟩ := and2 h
      have e0 := st.tt h0
      subst h0 e0
      exact sndG_tup (st.calm rfl).1 (sndGs ts st h1) (ckTs_len h1)
    · cases h
  | .star i j, sc, cs, cm, Pn, X, e, st, h => by
    unfold ckT at h
    split at h
    · obtain ⟨h0, hr⟩ := and2 h
      clear h
      have e0 := st.tt h0
      subst h0 e0
      obtain ⟨h1, hr⟩ := and2 hr
      obtain ⟨h2, hr⟩ := and2 hr
      obtain ⟨h3, h4⟩ := and2 hr
      obtain ⟨a1, a2⟩ := locB_ok st h3
      obtain ⟨b1, b2⟩ := locB_ok st h4
      exact sndG_star (st.calm rfl).1 (by rw [st.hN]; exact st.nd) (by rw [st.hN]; exact of_decide_eq_true h1) (by rw [st.hN]; exact of_decide_eq_true h2) a1 b1 a2 b2
    · cases h
theorem sndGs {T : Tbl} {call : ACall} {k : Nat} {N : List Str} : ∀ (c : CTs) {sc cs : Scope} {cm : Bool} {Pn : PX} {X : Cx} {es : List Expr}, Site T call k N sc cs cm Pn X → ckTs T N c sc cs cm es = true → SndGs T call X Pn es c
  | .nil, sc, cs, cm, Pn, X, es, st, h => by
    unfold ckTs at h
    cases es with
    | nil => exact sndGs_nil
    | cons _ _ => cases h
  | .cons c cs', sc, cs, cm, Pn, X, es, st, h => by
    unfold ckTs at h
    cases es with
    | nil => cases h
    | cons e es =>
      obtain ⟨h1, h⟩ := and2 h
      obtain ⟨h2, h3⟩ := and2 h
      exact sndGs_cons h1 (sndG c st h2) (sndGs cs' st h3)
theorem sndI {T : Tbl} {call : ACall} {k : Nat} {N : List Str} : ∀ (c : CI) {sc cs : Scope} {cm : Bool} {Pn : PX} {X : Cx} {tg e : Expr}, Site T call k N sc cs cm Pn X → ckI T N c sc cs cm tg e = true → SndI T call X Pn tg e c
  | .seq c, sc, cs, cm, Pn, X, tg, e, st, h => by
    unfold ckI at h
    exact sndI_seq (sndE c st h)
  | .range1 a, sc, cs, cm, Pn, X, tg, e, st, h => by
    unfold ckI at h
    split at h
    · obtain ⟨h1, h⟩ := and2 h
      obtain ⟨h2, h⟩ := and2 h
      obtain ⟨h3, h4⟩ := and2 h
      have e1 := of_decide_eq_true h1
      subst e1
      exact sndI_range1 st (glB_ok st h2).1 h3 (sndE a st h4)
    · cases h
  | .range2 a b, sc, cs, cm, Pn, X, tg, e, st, h => by
    unfold ckI at h
    split at h
    · obtain ⟨h1, h⟩ := and2 h
      obtain ⟨h2, h⟩ := and2 h
      obtain ⟨h3, h⟩ := and2 h
      obtain ⟨h4, h⟩ := and2 h
      obtain ⟨h5, h6⟩ := and2 h
      have e1 := of_decide_eq_true h1
      subst e1
      exact sndI_range2 st (glB_ok st h2).1 h3 h4 (sndE a st h5) (sndE b st h6)
    · cases h
  | .enum a, sc, cs, cm, Pn, X, tg, e, st, h => by
    unfold ckI at h
    split at h
    · obtain ⟨h1, h⟩ := and2 h
      obtain ⟨h2, h⟩ := and2 h
      obtain ⟨h3, h4⟩ := and2 h
      have e1 := of_decide_eq_true h1
      subst e1
      exact sndI_enum st (glB_ok st h2).1 h3 (sndE a st h4)
    · cases h
  | .zip a b, sc, cs, cm, Pn, X, tg, e, st, h => by
    unfold ckI at h
    split at h
    · obtain ⟨h1, h⟩ := and2 h
      obtain ⟨h2, h⟩ := and2 h
      obtain ⟨h3, h⟩ := and2 h
      obtain ⟨h4, h⟩ := and2 h
      obtain ⟨h5, h6⟩ := and2 h
      have e1 := of_decide_eq_true h1
      subst e1
      exact sndI_zip st (glB_ok st h2).1 h3 h4 (sndE a st h5) (sndE b st h6)
    · cases h
end
end Fk
end
section
set_option maxHeartbeats 8000000
/-! Statements by values. -/
namespace Fk
open PySem PySem.Spec PyProof.Rows L2
/-- what is wanted behind a statement, by values -/
structure KD (S : Sg) (Pn : PX) (W : WX) (μ : Mem) (H : Hp) (A : AEnds) (D : Ends) : Prop where
  nx : ∀ ρ' μ' σ' H', Grow μ H μ' H' → St2 S Pn ρ' σ' μ' H' → A.nx ρ' μ' → D.nx σ' H'
  rt : ∀ d μ' v H', Grow μ H μ' H' → Mm S μ' H' → Dat S μ' H' v d → A.rt d μ' → D.rt v H'
  bk : ∀ ρ' μ' σ' H', Grow μ H μ' H' → St2 S Pn ρ' σ' μ' H' → A.bk ρ' μ' → D.bk σ' H'
  ct : ∀ ρ' μ' σ' H', Grow μ H μ' H' → St2 S Pn ρ' σ' μ' H' → A.ct ρ' μ' → D.ct σ' H'
  ex : ∀ c fs ρ' μ' cls dd σ' H', Grow μ H μ' H' → St2 S Pn ρ' σ' μ' H' → XOk S μ' H' cls dd c fs → A.ex c fs ρ' μ' → W cls dd σ' H'
section
variable {S : Sg} {Pn : PX} {W : WX} {μ μ' : Mem} {H H' : Hp} {A : AEnds} {D : Ends} {ρ : Env} {σ : L2.St}
theorem KD.grow (k : KD S Pn W μ H A D) (g : Grow μ H μ' H') : KD S Pn W μ' H' A D :=
  ⟨fun _ _ _ _ g2 => k.nx _ _ _ _ (g.trans g2), fun _ _ _ _ g2 => k.rt _ _ _ _ (g.trans g2), fun _ _ _ _ g2 => k.bk _ _ _ _ (g.trans g2), fun _ _ _ _ g2 => k.ct _ _ _ _ (g.trans g2), fun _ _ _ _ _ _ _ _ g2 => k.ex _ _ _ _ _ _ _ _ (g.trans g2)⟩
theorem KD.kx (k : KD S Pn W μ H A D) (s : St2 S Pn ρ σ μ H) : KX S μ H (fun c fs μ2 => A.ex c fs ρ μ2) (fun cls dd H' => W cls dd σ H') := fun c fs μ' cls dd H' g m x q => k.ex c fs ρ μ' cls dd σ H' g (s.grow g m) x q
end
def lS (S : Sg) (Pn : PX) (W : WX) (w : ASt) : TS := fun D σ H => ∃ ρ μ A, St2 S Pn ρ σ μ H ∧ w A ρ μ ∧ KD S Pn W μ H A D
structure SndS (T : Tbl) (call : ACall) (X : Cx) (Pn : PX) (s : Stmt) (c : CS) : Prop where
  ps : ∀ (hid : Addr → Prop) (W : WX), Takes X W → PS X s (lS (mkS T X.K hid) Pn W (wS T call c))
structure SndSs (T : Tbl) (call : ACall) (X : Cx) (Pn : PX) (s : List Stmt) (c : CSs) : Prop where
  pss : ∀ (hid : Addr → Prop) (W : WX), Takes X W → PSs X s (lS (mkS T X.K hid) Pn W (wSs T call c))
section
variable {T : Tbl} {call : ACall} {k : Nat} {N : List Str} {sc cs : Scope} {X : Cx} {hid : Addr → Prop} {W : WX} {μ : Mem} {H : Hp} {cm : Bool} {Pn : PX}
theorem sndSs_nil : SndSs T call X Pn [] .nil := ⟨fun hid W tk => PSs.weak pss_nil fun D σ H h => by
  obtain ⟨ρ, μ, A, s2, hw, kd⟩ := h
  exact kd.nx ρ μ σ H (Grow.refl _ _) s2 hw⟩
theorem sndSs_cons {s : Stmt} {ss : List Stmt} {c : CS} {cc : CSs} (h : SndS T call X Pn s c) (t : SndSs T call X Pn ss cc) : SndSs T call X Pn (s :: ss) (.cons c cc) := ⟨fun hid W tk => PSs.weak (pss_cons (h.ps hid W tk) (t.pss hid W tk)) fun D σ H q => by
  obtain ⟨ρ, μ, A, s2, hw, kd⟩ := q
  exact ⟨ρ, μ, _, s2, hw, ⟨fun ρ' μ' σ' H' g s3 b => ⟨ρ', μ', A, s3, b, kd.grow g⟩, kd.rt, kd.bk, kd.ct, kd.ex⟩⟩⟩
/-- a list changes no more -/
theorem sndSs_fz {ss : List Stmt} {i : Nat} {cc : CSs} (t : SndSs T call X Pn ss cc) : SndSs T call X Pn ss (.cons (.fz i) cc) := ⟨fun hid W tk => PSs.weak (t.pss hid W tk) fun D σ H q => by
  obtain ⟨ρ, μ, A, s2, hw, kd⟩ := q
  have hw2 : (match getSlot ρ i with
    | some d => frz d μ (fun d' μ' => wSs T call cc A (ρ.set i (some d')) μ')
    | none => False) := hw
  split at hw2
  · rename_i d hd0
    obtain ⟨e, hx⟩ := getSlot_at hd0
    obtain ⟨v, h1, h2⟩ := s2.sl i d e
    have r := h2.dat hx
    have hσ : σ.set i (some v) = σ := by
      have hl := (List.getElem?_eq_some_iff.mp h1).1
      have he := (List.getElem?_eq_some_iff.mp h1).2
      rw [← he]
      exact List.set_getElem_self hl
    unfold frz at hw2
    split at hw2
    · rename_i a
      cases r
      split at hw2
      · rename_i ds ha
        obtain ⟨vs, q1, r⟩ := s2.mm.ok a _ ha
        have nh : ¬ hid a := fun z => by have := (s2.mm.hd a z).1; rw [ha] at this; cases this
        have s3 := (s2.grow Grow.freeze s2.mm.freeze).set i (v := .ref a) (d := .list ds) (.list mdel_same nh q1 (r.grow Grow.freeze))
        rw [hσ] at s3
        exact ⟨_, _, A, s3, hw2, kd.grow Grow.freeze⟩
      · rename_i ks ds ha
        obtain ⟨kvs, vs, q1, q2, q3, r⟩ := s2.mm.ok a _ ha
        have nh : ¬ hid a := fun z => by have := (s2.mm.hd a z).1; rw [ha] at this; cases this
        have s3 := (s2.grow Grow.freeze s2.mm.freeze).set i (v := .ref a) (d := .dict ks ds) (.dict mdel_same nh q1 q2 q3 (r.grow Grow.freeze))
        rw [hσ] at s3
        exact ⟨_, _, A, s3, hw2, kd.grow Grow.freeze⟩
      · exact hw2.elim
    · have s3 := s2.set i r
      rw [hσ] at s3
      exact ⟨_, _, A, s3, hw2, kd⟩
  · exact hw2.elim⟩
theorem sndS_pass {p : Pos} : SndS T call X Pn (.Pass p) .pass := ⟨fun hid W tk => PS.weak ps_pass fun D σ H h => by
  obtain ⟨ρ, μ, A, s2, hw, kd⟩ := h
  exact kd.nx ρ μ σ H (Grow.refl _ _) s2 hw⟩
theorem sndS_doc {x : Str} {j : Nat} {p p' : Pos} : SndS T call X Pn (.Expr (.Constant (.str x) j p) p') .pass := ⟨fun hid W tk => PS.weak ps_doc fun D σ H h => by
  obtain ⟨ρ, μ, A, s2, hw, kd⟩ := h
  exact kd.nx ρ μ σ H (Grow.refl _ _) s2 hw⟩
theorem sndS_brk {p : Pos} : SndS T call X Pn (.Break p) .brk := ⟨fun hid W tk => PS.weak ps_break fun D σ H h => by
  obtain ⟨ρ, μ, A, s2, hw, kd⟩ := h
  exact kd.bk ρ μ σ H (Grow.refl _ _) s2 hw⟩
theorem sndS_cont {p : Pos} : SndS T call X Pn (.Continue p) .cont := ⟨fun hid W tk => PS.weak ps_continue fun D σ H h => by
  obtain ⟨ρ, μ, A, s2, hw, kd⟩ := h
  exact kd.ct ρ μ σ H (Grow.refl _ _) s2 hw⟩
theorem sndS_ex {e : Expr} {c : CE} {p : Pos} (hc : noComp e = true) (h : Snd T call X Pn e c) : SndS T call X Pn (.Expr e p) (.ex c) := ⟨fun hid W tk => PS.weak (ps_expr (h.pe hid W tk) (swaps_no hc)) fun D σ H q => by
  obtain ⟨ρ, μ, A, s2, hw, kd⟩ := q
  exact lE.bind s2 hw (kd.kx s2) fun x μ1 vx H1 g s3 r kx1 b => kd.nx ρ μ1 σ H1 g s3 b⟩
theorem sndS_ret {e : Expr} {c : CE} {p : Pos} (h : Snd T call X Pn e c) : SndS T call X Pn (.Return (some e) p) (.ret c) := ⟨fun hid W tk => PS.weak (ps_ret (h.pe hid W tk)) fun D σ H q => by
  obtain ⟨ρ, μ, A, s2, hw, kd⟩ := q
  exact lE.bind s2 hw (kd.kx s2) fun x μ1 vx H1 g s3 r kx1 b => kd.rt x μ1 vx H1 g s3.mm r b⟩
theorem sndS_retN {p : Pos} : SndS T call X Pn (.Return none p) .retN := ⟨fun hid W tk => PS.weak ps_retN fun D σ H q => by
  obtain ⟨ρ, μ, A, s2, hw, kd⟩ := q
  exact kd.rt .non μ .non H (Grow.refl _ _) s2.mm .non hw⟩
theorem sndS_ite {e : Expr} {a b : List Stmt} {c : CE} {ca cb : CSs} {p : Pos} (h : Snd T call X Pn e c) (ha : SndSs T call X Pn a ca) (hb : SndSs T call X Pn b cb) : SndS T call X Pn (.If e a b p) (.ite c ca cb) := ⟨fun hid W tk => PS.weak (ps_if (h.pt hid W tk) (ha.pss hid W tk) (hb.pss hid W tk)) fun D σ H q => by
  obtain ⟨ρ, μ, A, s2, hw, kd⟩ := q
  refine lT.bind s2 hw (kd.kx s2) fun x μ1 H1 g s3 kx1 b => ?_
  cases x with
  | true => exact ⟨ρ, μ1, A, s3, b, kd.grow g⟩
  | false => exact ⟨ρ, μ1, A, s3, b, kd.grow g⟩⟩
/-- target = value -/
theorem sndS_asg {tg e : Expr} {c : CE} {t : CT} {p : Pos} (h : Snd T call X Pn e c) (hg : SndG T call X Pn tg t) (hs : swapsWithSole [tg] e p.line X.env = pure false) (hw : swappedStores [tg] e X.env = pure none) (hn : noStar tg = true) : SndS T call X Pn (.Assign [tg] e p) (.asg t c) :=
  ⟨fun hid W tk => PS.weak (ps_asg (h.pe hid W tk) (hg.pg hid) hs hw (assign_one hn)) fun D σ H q => by
  obtain ⟨ρ, μ, A, s2, hw, kd⟩ := q
  exact lE.bind s2 hw (kd.kx s2) fun x μ1 vx H1 g s3 r kx1 b => ⟨ρ, μ1, x, _, s3, r, b, fun ρ' μ' σ' H' g2 s4 _ nx => kd.nx ρ' μ' σ' H' (g.trans g2) s4 nx⟩⟩
/-- name = [..] on one line -/
theorem sndS_setLc {i : Nat} {y : Str} {m : Bool} {elt tg iter : Expr} {ifs : List Expr} {scope : Scope} {own : List (Str × Nat)} {p py spos : Pos} {ce : CE} {ct : CT} {ci : CI} {cts : CEs} (hc : X.calm = true) (hN : X.N.Nodup) (hy : X.N[i]? = some y) (hyl : X.env.scope.names.lookup y = some .local)
    (hsw : swapsWith (.ListComp elt [⟨tg, iter, ifs, 0⟩] scope p) (some (.Name y py)) spos.line X.env = pure true) (b : Blk T call X elt tg iter ifs scope own ce ct ci cts) :
    SndS T call X noPn (.Assign [.Name y py] (.ListComp elt [⟨tg, iter, ifs, 0⟩] scope p) spos) (.asg (.nm i) (.comp m ce ct own ci cts)) :=
  ⟨fun hid W tk => PS.weak (ps_setLc hc hN hy hyl hsw (b.it.pi hid W tk) b.ok (fun s H C cl fp => (b.tg s H C cl fp).pgx) (fun s H C cl fp => snd_tests (W := W0) (b.ts s H C cl fp) b.one takes0) (fun s H C cl fp => (b.elt s H C cl fp).pex (W := W0) takes0) (folded_no b.set_)) fun D σ H q => by
  obtain ⟨ρ, μ, A, s2, hw, kd⟩ := q
  refine comp_read (m := m) b.own σ H _ (lE.bind s2 hw (kd.kx s2) fun x μ1 vx H1 g s3 r kx1 b => ?_)
  exact kd.nx _ μ1 _ H1 g (s3.set i r) b⟩
/-- a, b = x, y: plain names, stored from the right -/
theorem sndS_par {i j : Nat} {x y : Str} {a b : Expr} {ca cb : CE} {px py pt : Pos} {kt k2 : Nat} {pt2 p : Pos} (hc : X.calm = true) (hN : X.N.Nodup) (hi : X.N[i]? = some x) (hj : X.N[j]? = some y) (hij : i ≠ j) (hx : X.env.scope.names.lookup x = some .local) (hy : X.env.scope.names.lookup y = some .local)
    (hsa : noStar a = true) (hsb : noStar b = true) (ha : Snd T call X Pn a ca) (hb : Snd T call X Pn b cb) (hw : swappedStores [.Tuple [.Name x px, .Name y py] kt pt] (.Tuple [a, b] k2 pt2) X.env = pure (some [x, y])) :
    SndS T call X Pn (.Assign [.Tuple [.Name x px, .Name y py] kt pt] (.Tuple [a, b] k2 pt2) p) (.par i j ca cb) :=
  ⟨fun hid W tk => PS.weak (ps_par hc hN hi hj hij hx hy ((pes2 hsa hsb ha hb).pa (hid := hid) tk) hw (swaps_sole rfl)) fun D σ H q => by
  obtain ⟨ρ, μ, A, s2, hw, kd⟩ := q
  refine lA.bind s2 (wEs2 hw) (kd.kx s2) fun xs μ1 vxs H1 g s3 r kx1 b => ?_
  obtain ⟨x, y, rfl, b⟩ := b
  obtain ⟨v, w, rfl, dv, dw⟩ := r.two
  exact ⟨v, w, rfl, kd.nx _ μ1 _ H1 g ((s3.set i dv).set j dw) b⟩⟩
theorem sndS_aug {i : Nat} {x : Str} {op : Operator} {e : Expr} {c : CE} {p p' : Pos} (hN : X.N.Nodup) (hi : X.N[i]? = some x) (hx : Loc X.env.scope x) (hf : X.fn x = true ∨ X.env.scope.names.lookup x = some .local) (ho : op = .Add ∨ op = .Sub) (h : Snd T call X Pn e c) : SndS T call X Pn (.AugAssign (.Name x p') op e p) (.aug i op c) := by
  rcases ho with rfl | rfl
  · refine ⟨fun hid W tk => PS.weak (ps_aug hN hi hx (h.pe hid W tk) ip_add hf) fun D σ H q => ?_⟩
    obtain ⟨ρ, μ, A, s2, hw, kd⟩ := q
    have hw2 : (match getSlot ρ i with
      | some (.int n) => wE T call c ρ μ (fun y μ1 => match Operator.Add, y with
        | .Add, .int m => A.nx (ρ.set i (some (.int (n + m)))) μ1
        | .Sub, .int m => A.nx (ρ.set i (some (.int (n - m)))) μ1
        | _, _ => False) (fun c fs μ2 => A.ex c fs ρ μ2)
      | _ => False) := hw
    split at hw2
    · rename_i n hn
      obtain ⟨e1, hx1⟩ := getSlot_at hn
      obtain ⟨v, h1, h2⟩ := s2.sl i _ e1
      cases h2.dat hx1
      refine ⟨_, h1, lE.bind s2 hw2 (kd.kx s2) fun y μ1 vy H1 g s3 r kx1 b => ?_⟩
      cases y <;> first
        | exact b.elim
        | skip
      cases r
      exact ⟨n, _, rfl, rfl, kd.nx _ μ1 _ H1 g (s3.set i (.int _)) b⟩
    · exact hw2.elim
  · refine ⟨fun hid W tk => PS.weak (ps_aug hN hi hx (h.pe hid W tk) ip_sub hf) fun D σ H q => ?_⟩
    obtain ⟨ρ, μ, A, s2, hw, kd⟩ := q
    have hw2 : (match getSlot ρ i with
      | some (.int n) => wE T call c ρ μ (fun y μ1 => match Operator.Sub, y with
        | .Add, .int m => A.nx (ρ.set i (some (.int (n + m)))) μ1
        | .Sub, .int m => A.nx (ρ.set i (some (.int (n - m)))) μ1
        | _, _ => False) (fun c fs μ2 => A.ex c fs ρ μ2)
      | _ => False) := hw
    split at hw2
    · rename_i n hn
      obtain ⟨e1, hx1⟩ := getSlot_at hn
      obtain ⟨v, h1, h2⟩ := s2.sl i _ e1
      cases h2.dat hx1
      refine ⟨_, h1, lE.bind s2 hw2 (kd.kx s2) fun y μ1 vy H1 g s3 r kx1 b => ?_⟩
      cases y <;> first
        | exact b.elim
        | skip
      cases r
      exact ⟨n, _, rfl, rfl, kd.nx _ μ1 _ H1 g (s3.set i (.int _)) b⟩
    · exact hw2.elim
/-- for .. in ..: -/
theorem sndS_for {tg iter : Expr} {body : List Stmt} {t : CT} {it : CI} {cb : CSs} {p : Pos} (hp : PassesOwn (model X.prog X.w) X.A X.env X.xe) (hc : X.calm = true) (hs : noSet iter = true) (hi : SndI T call X Pn tg iter it) (hg : SndG T call X Pn tg t) (hb : SndSs T call X Pn body cb) : SndS T call X Pn (.For tg iter body [] p) (.for_ t it cb) :=
  ⟨fun hid W tk => PS.weak (ps_for hp hc (hi.pi hid W tk) (hg.pg hid) (hb.pss hid W tk) (folded_no hs)) fun D σ H q => by
  obtain ⟨ρ, μ, A, s2, hw, kd⟩ := q
  refine ⟨ρ, μ, _, _, s2, hw, kd.kx s2, fun items G μ1 J H1 g1 m1 wk hG0 hf => ?_⟩
  let Pv : Nat → L2.St → Hp → Prop := fun i σ' H' => ∃ ρ' μ', St2 (mkS T X.K hid) Pn ρ' σ' μ' H' ∧ Grow μ1 H1 μ' H' ∧ forL (wTg T call t) (wSs T call cb) G (items.drop i) A ρ' μ'
  refine ⟨fun i m σ' H' => m = items.length - i ∧ i ≤ items.length ∧ Pv i σ' H', ⟨items.length, rfl, Nat.zero_le _, ρ, μ1, s2.grow g1 m1, Grow.refl _ _, by simpa using hf⟩, ?_⟩
  rintro i m σ' H' ⟨rfl, hi, ρ', μ', s3, gg, hcl⟩
  by_cases hlt : i < items.length
  · have hx : items[i]? = some items[i] := List.getElem?_eq_getElem hlt
    rw [List.drop_eq_getElem_cons hlt] at hcl
    obtain ⟨hG, hstep⟩ := hcl
    refine .inr ⟨(wk.grow gg).goes s3.mm hG hlt, Pv (i + 1), fun σ2 H2 p => ⟨items.length - (i + 1), by omega, rfl, hlt, p⟩, fun x H'' y => ?_⟩
    obtain ⟨g2, m2, dx⟩ := (wk.grow gg).yields s3.mm hG hx y
    refine ⟨ρ', μ', items[i], _, s3.grow g2 m2, dx, hstep, fun ρ3 μ3 σ3 H3 g3 s4 _ hbd => ?_⟩
    have g4 : Grow μ1 H1 μ3 H3 := (gg.trans g2).trans g3
    exact ⟨ρ3, μ3, _, s4, hbd, ⟨fun ρ5 μ5 σ5 H5 g5 s5 b => ⟨ρ5, μ5, s5, g4.trans g5, b⟩, fun d μ5 v H5 g5 => kd.rt d μ5 v H5 (g1.trans (g4.trans g5)), fun ρ5 μ5 σ5 H5 g5 => kd.nx ρ5 μ5 σ5 H5 (g1.trans (g4.trans g5)), fun ρ5 μ5 σ5 H5 g5 s5 b => ⟨ρ5, μ5, s5, g4.trans g5, b⟩,
      fun c fs ρ5 μ5 cls dd σ5 H5 g5 => kd.ex c fs ρ5 μ5 cls dd σ5 H5 (g1.trans (g4.trans g5))⟩⟩
  · have e : i = items.length := by omega
    subst e
    rw [List.drop_length] at hcl
    obtain ⟨hG, hfin⟩ := hcl
    exact .inl ⟨(wk.grow gg).stops s3.mm hG, kd.nx ρ' μ' σ' H' (g1.trans gg) s3 hfin⟩⟩
theorem sndS_while {e : Expr} {body : List Stmt} {c : CE} {cb : CSs} {p : Pos} (hp : PassesOwn (model X.prog X.w) X.A X.env X.xe) (h : Snd T call X Pn e c) (hb : SndSs T call X Pn body cb) : SndS T call X Pn (.While e body [] p) (.while_ c cb) :=
  ⟨fun hid W tk => PS.weak (ps_while hp (h.pt hid W tk) (hb.pss hid W tk)) fun D σ H q => by
  obtain ⟨ρ, μ, A, s2, ⟨n, hw⟩, kd⟩ := q
  refine ⟨fun m σ' H' => ∃ ρ' μ', St2 (mkS T X.K hid) Pn ρ' σ' μ' H' ∧ Grow μ H μ' H' ∧ whileN (wT T call c) (wSs T call cb) m A ρ' μ', ⟨n, ρ, μ, s2, Grow.refl _ _, hw⟩, ?_⟩
  rintro m σ' H' ⟨ρ', μ', s3, gg, hw3⟩
  cases m with
  | zero => exact hw3.elim
  | succ m =>
    refine lT.bind s3 hw3 ((kd.grow gg).kx s3) fun x μ1 H1 g s4 kx1 b => ?_
    cases x with
    | true =>
      refine ⟨fun σ5 H5 => ∃ ρ' μ', St2 (mkS T X.K hid) Pn ρ' σ5 μ' H5 ∧ Grow μ H μ' H5 ∧ whileN (wT T call c) (wSs T call cb) m A ρ' μ', fun σ5 H5 q => ⟨m, Nat.lt_succ_self _, q⟩, ρ', μ1, _, s4, b, ?_⟩
      exact ⟨fun ρ5 μ5 σ5 H5 g5 s5 b => ⟨ρ5, μ5, s5, (gg.trans g).trans g5, b⟩, fun d μ5 v H5 g5 => kd.rt d μ5 v H5 ((gg.trans g).trans g5), fun ρ5 μ5 σ5 H5 g5 => kd.nx ρ5 μ5 σ5 H5 ((gg.trans g).trans g5), fun ρ5 μ5 σ5 H5 g5 s5 b => ⟨ρ5, μ5, s5, (gg.trans g).trans g5, b⟩,
        fun c fs ρ5 μ5 cls dd σ5 H5 g5 => kd.ex c fs ρ5 μ5 cls dd σ5 H5 ((gg.trans g).trans g5)⟩
    | false => exact kd.nx ρ' μ1 σ' H1 (gg.trans g) s4 b⟩
end
end Fk
end
section
set_option maxHeartbeats 8000000
/-! raise, try. -/
namespace Fk
open PySem PySem.Spec PyProof.Rows L2
section
variable {T : Tbl} {call : ACall} {k : Nat} {N : List Str} {sc cs : Scope} {X : Cx} {hid : Addr → Prop} {W : WX} {μ : Mem} {H : Hp} {cm : Bool} {Pn : PX}
theorem exc_raises (tk : TOk T X.K X.mg X.w) {c : Nat} {o : Option Nat} (h : T.excF c = some o) : Raises X (.ref (cA T X.K c)) := by
  obtain ⟨xf, ty, _⟩ := tk.exc c o h
  exact raises_own xf.exC ty
/-- raise C("..") -/
theorem sndS_raise0 {c : Nat} {x m : Str} {j : Nat} {p p2 pos pos' : Pos} (st : Site T call k N sc cs true noPn X) (hx : T.cls[c]? = some x) (hg : Gl X x) (hd : (x == ("__debug__" : Str)) = false) (he : T.excF c = some none) :
    SndS T call X noPn (.Raise (some (.Call (.Name x p) [.Constant (.str m) j p2] [] pos)) none pos') (.raise c none) := ⟨fun hid W tk => by
  obtain ⟨hc, _, _⟩ := st.calm rfl
  obtain ⟨xf, ty, kp, _, z⟩ := st.tk.exc c none he
  obtain ⟨B, newId, initId, bmB, F, q⟩ := z rfl
  have e := ga_of (K := X.K) hx
  have gC := st.tk.cglo c x hx
  rw [← e] at gC
  refine PS.weak (ps_raise hc tk (pmk_own F q gC kp (exc_raises st.tk he) hg hd)) fun D σ H q => ?_
  obtain ⟨ρ, μ, A, s2, hw, kd⟩ := q
  have hw2 : (match T.excF c, (none : Option CE) with
    | some none, none => A.ex c [] ρ μ
    | some (some f), some e => wE T call e ρ μ (fun d μ1 => A.ex c [(f, d)] ρ μ1) (fun c fs μ2 => A.ex c fs ρ μ2)
    | _, _ => False) := hw
  rw [he] at hw2
  exact kd.ex c [] ρ μ _ none σ H (Grow.refl _ _) s2 ⟨rfl, rfl⟩ hw2⟩
/-- C(e), an own exception whose __init__ keeps one field -/
def lMk (T : Tbl) (K : PySem.W.Frag) (S : Sg) (Pn : PX) (W : WX) (c f : Nat) (w : AE) : L2.St → Hp → XK → Prop := fun σ H Q => ∃ ρ μ Φ Ψ, St2 S Pn ρ σ μ H ∧ w ρ μ Φ Ψ ∧ KX S μ H Ψ (fun cls dd H' => W cls dd σ H') ∧
  ∀ d μ' dd H', Grow μ H μ' H' → Mm S μ' H' → XOk S μ' H' (.ref (cA T K c)) dd c [(f, d)] → Φ d μ' → Q (.ref (cA T K c)) dd H'
theorem pmk_own1 {c f : Nat} {x : Str} {p pos : Pos} {e : Expr} {ce : CE} (st : Site T call k N sc cs true noPn X) (tk : Takes X W) (hx : T.cls[c]? = some x) (hg : Gl X x) (hd : (x == ("__debug__" : Str)) = false) (he : T.excF c = some (some f)) (hs : noStar e = true) (h : Snd T call X noPn e ce) :
    PMk X (.Call (.Name x p) [e] [] pos) (lMk T X.K (mkS T X.K hid) noPn W c f (wE T call ce)) := by
  intro pins s σ H Q I hq0
  obtain ⟨ρ, μ, Φ, Ψ, s2, hw, kx, kq⟩ := hq0
  obtain ⟨hc, hr, _⟩ := st.calm rfl
  obtain ⟨hf, OT, fi, fdt, ps, iC, tI, F1, hb⟩ := st.xs c f he
  have e1 := ga_of (K := X.K) hx
  have gC := st.tk.cglo c x hx
  rw [← e1] at gC
  obtain ⟨nm, q, N0, bs, bm, sn, sub, ab, col, dd0, k0, k1, k2, k3, k5, hC, hbm⟩ := id OT.cls
  refine wpAny_Call_Name_kw (ld_glob I hg gC ?_ hd)
  refine PySem.W.callWith_K (h₀ := X.base) I.ok.mod.kin OT.kC (args1 (pos := pos) hs (thn ((h.pe hid W tk).run pins s σ H _ I (lE.bind (R := fun vx H1 => ∃ x μ1, Grow μ H μ1 H1 ∧ Mm (mkS T X.K hid) μ1 H1 ∧ Dat (mkS T X.K hid) μ1 H1 vx x ∧ Φ x μ1) s2 hw kx fun x μ1 vx H1 g s3 r kx1 b => ⟨x, μ1, g, s3.mm, r, b⟩)) fun u s1 z => ?_)) (star_cons hs) rfl
  obtain ⟨vx, H1, I1, ru, xd, μ1, g1, m1, dx, b⟩ := z
  refine ⟨I1.kIn, ?_⟩
  show wpAny _ _ (PySem.call (.ref (cA T X.K c)) [u]) _ _ _
  obtain ⟨hp, g, dr, tkn, os⟩ := s1
  have hsz : hp.objs.size ≤ hp.objs.size + 1 := Nat.le_succ _
  have hn : H1 (hp.objs.size + 1) = none := I1.hok.fresh hsz
  have kk : ∀ b o, hp.get? b = some o → ((hp.push (PySem.W.kdv_tup [u])).push (PySem.HandSPX.excO (cA T X.K c) hp.objs.size)).get? b = some o := fun b o e => Heap.get?_push_of_some _ (Heap.get?_push_of_some _ e)
  have hget : ((hp.push (PySem.W.kdv_tup [u])).push (PySem.HandSPX.excO (cA T X.K c) hp.objs.size)).get? (hp.objs.size + 1) = some (PySem.HandSPX.excO (cA T X.K c) hp.objs.size) := by heap_get
  have I2 : Inv X pins σ (upd H1 (hp.objs.size + 1) (exo (hp.objs.size + 1) (cA T X.K c) none)) ⟨(hp.push (PySem.W.kdv_tup [u])).push (PySem.HandSPX.excO (cA T X.K c) hp.objs.size), g, dr, tkn, os⟩ :=
    I1.laid (t' := tkn) (a := hp.objs.size + 1) (o := exo (hp.objs.size + 1) (cA T X.K c) none) (h' := (hp.push (PySem.W.kdv_tup [u])).push (PySem.HandSPX.excO (cA T X.K c) hp.objs.size)) kk hsz (exo_ok hget)
  have hq : spX T X.K c f [.ref (hp.objs.size + 1), vx] (upd H1 (hp.objs.size + 1) (exo (hp.objs.size + 1) (cA T X.K c) none)) (fun v H2 => v = .non ∧ ∃ (d : Addr) (fs : List (Str × V)), H2 (hp.objs.size + 1) = some (exo (hp.objs.size + 1) (cA T X.K c) (some d)) ∧ H2 d = some (exd d fs) ∧ H1 d = none ∧
      Q (.ref (cA T X.K c)) (some d) (upd (del H2 (hp.objs.size + 1)) d (.xd fs))) (fun _ _ _ => False) := by
    refine ⟨hp.objs.size + 1, vx, rfl, upd_same, fun dd hdd hne => ⟨rfl, dd, [(fN T f, vx)], upd_same, ?_, ?_, ?_⟩⟩
    · rw [upd_ne hne, upd_same]
    · rw [upd_ne hne] at hdd
      exact hdd
    · have hdd1 : H1 dd = none := by rw [upd_ne hne] at hdd; exact hdd
      have e2 : upd (del (upd (upd (upd H1 (hp.objs.size + 1) (exo (hp.objs.size + 1) (cA T X.K c) none)) dd (exd dd [(fN T f, vx)])) (hp.objs.size + 1) (exo (hp.objs.size + 1) (cA T X.K c) (some dd))) (hp.objs.size + 1)) dd (.xd [(fN T f, vx)]) = upd H1 dd (.xd [(fN T f, vx)]) := by
        funext a
        by_cases z : a = dd
        · subst z; rw [upd_same, upd_same]
        · rw [upd_ne z, upd_ne z]
          by_cases y : a = hp.objs.size + 1
          · subst y; rw [del_same, hn]
          · rw [del_ne y, upd_ne y, upd_ne z, upd_ne y]
      rw [e2]
      refine kq xd μ1 (some dd) _ (g1.trans (Grow.new hdd1)) (m1.new hdd1) ⟨rfl, m1.free hdd1, m1.hids hdd1, _, upd_same, fun g y q => ?_⟩ b
      by_cases z : g = f
      · subst z
        have q2 : some xd = some y := by simpa using q
        cases q2
        exact ⟨vx, by simp [mkS_fN], dx.grow (Grow.new hdd1)⟩
      · have q2 : (g == f) = false := by simpa using z
        simp [List.lookup, q2] at q
  have r2 : Vals [V.ref (hp.objs.size + 1), vx] [Value.ref (hp.objs.size + 1), u] := .cons rfl (.cons ru .nil)
  have hl : ([Value.ref (hp.objs.size + 1), u] ++ ([] : List Value)).length = ps.length := by
    have e := F1.len _ _ _ _ hq
    simpa using e
  have hbb := hb ⟨(hp.push (PySem.W.kdv_tup [u])).push (PySem.HandSPX.excO (cA T X.K c) hp.objs.size), g, dr, tkn, os⟩ [Value.ref (hp.objs.size + 1), u] I2.kIn hl
  rw [List.append_nil] at hbb
  refine wpAny_call (PySem.HandSPX.call_own F.excBase_ValueError (fun Y => PySem.HandSPX.refsVE_contains Y bm hbm) (I1.kIn _ _ hC) (PySem.W.looks_findIn I1.kIn iC) (fun self => PySem.W.bind_fn I1.kIn self tI) (by rw [sizeLine_eq]; simp)
    (codeAny_mono (F1.run _ X.stack _ _ ⟨[Value.ref (hp.objs.size + 1), u], []⟩ [Value.ref (hp.objs.size + 1), u] _ _ (fun _ _ _ => False) (by rw [guards_make]; exact st.gd) (hr.make (cA T X.K c) [u] []) (I2.env0.make (cA T X.K c) [u] []) hbb r2 hq) fun r s' hq' => ?_))
  cases r with
  | error er => exact takes0 (X := X) _ _ (XE.of_call (W := fun _ _ _ _ => False) I2 (fun _ _ _ h => h) hq')
  | ok fl =>
    cases fl with
    | ret u' =>
      obtain ⟨v, H2, os2, bare2, un2, hok2, rv, ev, d, fs, ea, ed, hd1, q2⟩ := hq'
      subst ev
      obtain ⟨h2, g2, d2, t2, os'⟩ := s'
      exact ⟨rv, mk_end (raises_own OT.exC OT.tyC) I1 hsz kk un2 hok2 os2 bare2 ea ed hd1 q2⟩
    | next => exact hq'.elim
    | brk => exact hq'.elim
    | cont => exact hq'.elim
theorem sndS_raise1 {c f : Nat} {x : Str} {p pos pos' : Pos} {e : Expr} {ce : CE} (st : Site T call k N sc cs true noPn X) (hx : T.cls[c]? = some x) (hg : Gl X x) (hd : (x == ("__debug__" : Str)) = false) (he : T.excF c = some (some f)) (hs : noStar e = true) (h : Snd T call X noPn e ce) :
    SndS T call X noPn (.Raise (some (.Call (.Name x p) [e] [] pos)) none pos') (.raise c (some ce)) := ⟨fun hid W tk => by
  obtain ⟨hc, _, _⟩ := st.calm rfl
  refine PS.weak (ps_raise hc tk (pmk_own1 (hid := hid) st tk hx hg hd he hs h)) fun D σ H q => ?_
  obtain ⟨ρ, μ, A, s2, hw, kd⟩ := q
  have hw2 : (match T.excF c, some ce with
    | some none, none => A.ex c [] ρ μ
    | some (some f), some e => wE T call e ρ μ (fun d μ1 => A.ex c [(f, d)] ρ μ1) (fun c fs μ2 => A.ex c fs ρ μ2)
    | _, _ => False) := hw
  rw [he] at hw2
  exact ⟨ρ, μ, _, _, s2, hw2, kd.kx s2, fun d μ' dd H' g m x b => kd.ex c _ ρ μ' _ dd σ H' g (s2.grow g m) x b⟩⟩
/-- which exception a suite holds -/
def PnAt (T : Tbl) (K : PySem.W.Frag) (a : Addr) (cls : Value) (d : Option Addr) : PX := fun a' c' dd => a' = a ∧ cls = .ref (cA T K c') ∧ dd = d
theorem St2.repn {S : Sg} {Pn' : PX} {ρ : Env} {σ : L2.St} (s : St2 S noPn ρ σ μ H) : St2 S Pn' ρ σ μ H :=
  ⟨s.mm, fun i d e => by
    obtain ⟨v, h1, h2⟩ := s.sl i d e
    cases hx : isX d with
    | false => exact ⟨v, h1, .of (h2.dat hx)⟩
    | true =>
      cases d <;> first
        | (cases hx; done)
        | skip
      obtain ⟨a, dd, _, hp, _⟩ := h2
      exact hp.elim, s.len⟩
theorem zip_fst_snd {α β : Type} : ∀ l : List (α × β), (l.map (·.1)).zip (l.map (·.2)) = l
  | [] => rfl
  | p :: l => by simp [zip_fst_snd l]
/-- the suite's context -/
theorem Site.suite (st : Site T call k N sc cs true noPn X) {a : Addr} {oe : Obj} {cls : Value} {d : Option Addr} {pn : List (Addr × Obj)} (hz : Zc cls d oe) (hf : ∃ vs, oe.data = .fields vs) : Site T call k N sc cs false (PnAt T X.K a cls d) (X.suite a ((a, oe) :: pn)) where
  hN := st.hN
  nd := st.nd
  hsc := st.hsc
  fn := st.fn
  calm := fun h => absurd h (by decide)
  gd := st.gd
  un := st.un
  tk := st.tk
  fs := st.fs
  ks := st.ks
  xs := st.xs
  pn := fun a' c dd h => by
    obtain ⟨rfl, rfl, rfl⟩ := h
    obtain ⟨vs, hv⟩ := hf
    exact ⟨oe, vs, List.mem_cons_self, hz, hv⟩
theorem Site.tr (st : Site T call k N sc cs true noPn X) (pn : List (Addr × Obj)) (xe : Value → Shared → Prop) : Site T call k N sc cs true noPn (X.tr pn xe) where
  hN := st.hN
  nd := st.nd
  hsc := st.hsc
  fn := st.fn
  calm := st.calm
  gd := st.gd
  un := st.un
  tk := st.tk
  fs := st.fs
  ks := st.ks
  xs := st.xs
  pn := fun _ _ _ h => h.elim
theorem Site.nox {Pn : PX} {cm : Bool} (st : Site T call k N sc cs cm Pn X) : Site T call k N sc cs cm Pn X.nox where
  hN := st.hN
  nd := st.nd
  hsc := st.hsc
  fn := st.fn
  calm := st.calm
  gd := st.gd
  un := st.un
  tk := st.tk
  fs := st.fs
  ks := st.ks
  xs := st.xs
  pn := st.pn
/-- try: .. except C as n: .. -/
theorem sndS_try {body suite : List Stmt} {b0 : Stmt} {x n : Str} {i c : Nat} {np pos pos' : Pos} {cb ch : CSs} (st : Site T call k N sc cs true noPn X) (hs : X.stack = X.env :: X.outer) (hf : X.env.frame = some X.env.locals) (hi : X.N[i]? = some n) (hln : sc.names.lookup n = some .local)
    (hx : T.cls[c]? = some x) (hg : Gl X x) (hd : (x == ("__debug__" : Str)) = false)
    (hb : ∀ (pn : List (Addr × Obj)) (xe : Value → Shared → Prop), PassesOwn (model X.prog X.w) X.A X.env xe → SndSs T call (X.tr pn xe) noPn body cb)
    (hsu : ∀ (a : Addr) (oe : Obj) (cls : Value) (d : Option Addr) (pn : List (Addr × Obj)), Zc cls d oe → (∃ vs, oe.data = .fields vs) → SndSs T call (X.suite a ((a, oe) :: pn)) (PnAt T X.K a cls d) (b0 :: suite) ch) :
    SndS T call X noPn (.Try body [.ExceptHandler (some (.Name x np)) (some n) (b0 :: suite) pos'] [] [] pos) (.try_ cb c i ch) := ⟨fun hid W tk => by
  have e1 := ga_of (K := X.K) hx
  have gC := st.tk.cglo c x hx
  rw [← e1] at gC
  have hN : X.N.Nodup := by rw [st.hN]; exact st.nd
  have kn : X.env.kindOf n = some .local := by
    show X.env.scope.names.lookup n = _
    rw [st.hsc]
    exact hln
  refine PS.weak (ps_try_as (Wout := W) (tb := fun W' => lS (mkS T X.K hid) noPn W' (wSs T call cb)) (ts := fun a cls d D σ H => ∃ hid, lS (mkS T X.K hid) (PnAt T X.K a cls d) W0 (wSs T call ch) D σ H) hs hf hN hi kn ⟨hg, hd, .inl gC⟩ tk
    (fun W' pn xe tk' po => (hb pn xe po).pss hid W' tk') (fun a oe cls d pn hz hfs => ⟨fun pins s σ H D I q => let ⟨hid, q⟩ := q; ((hsu a oe cls d pn hz hfs).pss hid W0 takes0).run pins s σ H D I q⟩)) fun D σ H q => ?_
  obtain ⟨ρ, μ, A, s2, hw, kd⟩ := q
  refine ⟨ρ, μ, _, s2, hw, ⟨kd.nx, kd.rt, kd.bk, kd.ct, fun k0 fs ρ1 μ1 cls dd σ1 H1 g s3 xo he => ?_⟩⟩
  have ecls : cls = .ref (cA T X.K k0) := xo.cls
  subst ecls
  have he2 : (match T.subX k0 c with
    | some true => wSs T call ch { nx := fun ρ2 μ2 => A.nx (dropX (ρ2.set i none)) μ2, rt := A.rt, bk := fun ρ2 μ2 => A.bk (dropX (ρ2.set i none)) μ2, ct := fun ρ2 μ2 => A.ct (dropX (ρ2.set i none)) μ2, ex := fun _ _ _ _ => False } (ρ1.set i (some (.exn k0 (fs.map (·.1)) (fs.map (·.2))))) μ1
    | some false => A.ex k0 fs ρ1 μ1
    | none => False) := he
  split at he2
  · rename_i hsub
    refine ⟨true, st.tk.subX k0 c true hsub, fun _ a ha => ⟨hid, _, μ1, _, ?_, he2, ?_⟩, fun h => absurd h (by decide)⟩
    · refine (s3.repn (Pn' := PnAt T X.K a (.ref (cA T X.K k0)) dd)).setX i ⟨a, dd, rfl, ⟨rfl, rfl, rfl⟩, ?_⟩
      rw [zip_fst_snd]
      exact xo.xd
    · exact ⟨fun ρ5 μ5 σ5 H5 g5 s5 b => kd.nx _ μ5 _ H5 (g.trans g5) ((s5.unset i).dropX) b, fun d μ5 v H5 g5 => kd.rt d μ5 v H5 (g.trans g5), fun ρ5 μ5 σ5 H5 g5 s5 b => kd.bk _ μ5 _ H5 (g.trans g5) ((s5.unset i).dropX) b, fun ρ5 μ5 σ5 H5 g5 s5 b => kd.ct _ μ5 _ H5 (g.trans g5) ((s5.unset i).dropX) b,
        fun _ _ _ _ _ _ _ _ _ _ _ z => z⟩
  · rename_i hsub
    exact ⟨false, st.tk.subX k0 c false hsub, fun h => absurd h (by decide), fun _ => kd.ex k0 fs ρ1 μ1 _ dd σ1 H1 g s3 xo he2⟩
  · exact he2.elim⟩
/-- try: .. except C: .., without a name -/
theorem sndS_tryN {body suite : List Stmt} {b0 : Stmt} {x : Str} {c : Nat} {np pos pos' : Pos} {cb ch : CSs} (st : Site T call k N sc cs true noPn X) (hs : X.stack = X.env :: X.outer) (hf : X.env.frame = some X.env.locals)
    (hx : T.cls[c]? = some x) (hg : Gl X x) (hd : (x == ("__debug__" : Str)) = false)
    (hb : ∀ (pn : List (Addr × Obj)) (xe : Value → Shared → Prop), PassesOwn (model X.prog X.w) X.A X.env xe → SndSs T call (X.tr pn xe) noPn body cb)
    (hsu : ∀ (a : Addr) (oe : Obj) (cls : Value) (d : Option Addr) (pn : List (Addr × Obj)), Zc cls d oe → (∃ vs, oe.data = .fields vs) → SndSs T call (X.suite a ((a, oe) :: pn)) (PnAt T X.K a cls d) (b0 :: suite) ch) :
    SndS T call X noPn (.Try body [.ExceptHandler (some (.Name x np)) none (b0 :: suite) pos'] [] [] pos) (.tryN cb c ch) := ⟨fun hid W tk => by
  have e1 := ga_of (K := X.K) hx
  have gC := st.tk.cglo c x hx
  rw [← e1] at gC
  refine PS.weak (ps_try_only (Wout := W) (tb := fun W' => lS (mkS T X.K hid) noPn W' (wSs T call cb)) (ts := fun a cls d D σ H => ∃ hid, lS (mkS T X.K hid) (PnAt T X.K a cls d) W0 (wSs T call ch) D σ H) hs hf ⟨hg, hd, .inl gC⟩ tk
    (fun W' pn xe tk' po => (hb pn xe po).pss hid W' tk') (fun a oe cls d pn hz hfs => ⟨fun pins s σ H D I q => let ⟨hid, q⟩ := q; ((hsu a oe cls d pn hz hfs).pss hid W0 takes0).run pins s σ H D I q⟩)) fun D σ H q => ?_
  obtain ⟨ρ, μ, A, s2, hw, kd⟩ := q
  refine ⟨ρ, μ, _, s2, hw, ⟨kd.nx, kd.rt, kd.bk, kd.ct, fun k0 fs ρ1 μ1 cls dd σ1 H1 g s3 xo he => ?_⟩⟩
  have ecls : cls = .ref (cA T X.K k0) := xo.cls
  subst ecls
  have he2 : (match T.subX k0 c with
    | some true => wSs T call ch { nx := fun ρ2 μ2 => A.nx (dropX ρ2) μ2, rt := A.rt, bk := fun ρ2 μ2 => A.bk (dropX ρ2) μ2, ct := fun ρ2 μ2 => A.ct (dropX ρ2) μ2, ex := fun _ _ _ _ => False } ρ1 μ1
    | some false => A.ex k0 fs ρ1 μ1
    | none => False) := he
  split at he2
  · rename_i hsub
    refine ⟨true, st.tk.subX k0 c true hsub, fun _ a ha => ⟨hid, _, μ1, _, s3.repn (Pn' := PnAt T X.K a (.ref (cA T X.K k0)) dd), he2, ?_⟩, fun h => absurd h (by decide)⟩
    exact ⟨fun ρ5 μ5 σ5 H5 g5 s5 b => kd.nx _ μ5 _ H5 (g.trans g5) s5.dropX b, fun d μ5 v H5 g5 => kd.rt d μ5 v H5 (g.trans g5), fun ρ5 μ5 σ5 H5 g5 s5 b => kd.bk _ μ5 _ H5 (g.trans g5) s5.dropX b, fun ρ5 μ5 σ5 H5 g5 s5 b => kd.ct _ μ5 _ H5 (g.trans g5) s5.dropX b,
        fun _ _ _ _ _ _ _ _ _ _ _ z => z⟩
  · rename_i hsub
    exact ⟨false, st.tk.subX k0 c false hsub, fun h => absurd h (by decide), fun _ => kd.ex k0 fs ρ1 μ1 _ dd σ1 H1 g s3 xo he2⟩
  · exact he2.elim⟩
end
end Fk
end
section
set_option maxHeartbeats 8000000
/-! The check of statements. -/
namespace Fk
open PySem PySem.Spec PyProof.Rows L2
def isLC : Expr → Bool
  | .ListComp _ _ _ _ => true
  | _ => false
/-- is the name stored inside the comprehension's end -/
def swpB (sc : Scope) (tg v : Expr) : Bool := match v, tg with
  | .ListComp _ _ s p, .Name t q => (sc.kind == .function) && (sc.names.lookup t == some .local) && (q.line == p.line) && !(s.names.any fun (n, k) => n == t && (k == .local || k == .cell))
  | _, _ => false
theorem swpB_ok {sc : Scope} {tg v : Expr} {l : Nat} {env : PySem.Env} (hs : env.scope = sc) (hk : sc.kind = .function) (h : (noComp v || isLC v) = true) : swapsWith v (some tg) l env = pure (swpB sc tg v) := by
  have hb : env.blockKind = .function := by unfold Env.blockKind; rw [hs, hk]; rfl
  cases v <;> first
    | (exact swaps_no rfl)
    | (cases h; done)
    | skip
  cases tg <;> first
    | rfl
    | skip
  unfold swapsWith swpB
  simp only [hb, hk, Env.kindOf, hs, Expr.pos]
/-- which names are stored from the right -/
def swOf (sc : Scope) (tg e : Expr) : Option (Option (List Str)) := match tg, e with
  | .Tuple ts _ _, .Tuple vs _ _ =>
    if (!(ts.length == 2 || ts.length == 3) || vs.length != ts.length || sc.kind != .function) = true then some none
    else if (vs.any fun | .Starred .. => true | _ => false) = true then some none
    else
      let line := (ts.head?.map (·.pos.line)).getD 0
      let names := ts.filterMap fun
        | .Name id pos => if sc.names.lookup id == some .local && pos.line == line then some id else none
        | _ => none
      if (names.length != ts.length || names.eraseDups.length != names.length) = true then some none
      else if vs.all (foldedForSure 8) = true then some none
      else if vs.all (constantsAlone 8) = true then none
      else some (some names)
  | .List _ _, .Tuple _ _ _ => none
  | _, _ => some none
theorem swOf_ok {sc : Scope} {tg e : Expr} {r : Option (List Str)} {env : PySem.Env} (hs : env.scope = sc) (hk : sc.kind = .function) (h : swOf sc tg e = some r) : swappedStores [tg] e env = pure r := by
  have hb : env.blockKind = .function := by unfold Env.blockKind; rw [hs, hk]; rfl
  unfold swOf at h
  split at h
  · rename_i ts _ _ vs _ _
    unfold swappedStores
    simp only [hb, Env.kindOf, hs]
    rw [hk] at h
    dsimp only at h
    split at h
    · rename_i c
      cases h
      exact if_pos c
    · rename_i c
      refine (if_neg c).trans ?_
      split at h
      · rename_i c2
        cases h
        exact if_pos c2
      · rename_i c2
        refine (if_neg c2).trans ?_
        split at h
        · rename_i c3
          cases h
          exact if_pos c3
        · rename_i c3
          refine (if_neg c3).trans ?_
          split at h
          · rename_i c4
            cases h
            exact if_pos c4
          · rename_i c4
            refine (if_neg c4).trans ?_
            split at h
            · cases h
            · rename_i c5
              cases h
              exact if_neg c5
  · cases h
  · rename_i h1 h2
    cases h
    cases tg <;> first
      | rfl
      | (cases e <;> first
          | rfl
          | exact absurd rfl (h1 _ _ _ _ _ _ rfl)
          | exact (h1 _ _ _ _ _ _ rfl rfl).elim
          | exact (h2 _ _ _ _ _ rfl rfl).elim)
mutual
def ckS (T : Tbl) (N : List Str) : CS → Scope → Scope → Bool → Stmt → Bool
  | .asg t c, sc, cs, cm, s => (match s with
    | .Assign [tg] v _ => noStar tg && ((noComp v || isLC v) && (ckE T N c sc cs cm v && (ckT T N t sc cs cm tg && (if swpB sc tg v = true then (match t, c, tg, v with
      | .nm _, .comp _ _ _ _ _ _, .Name y _, .ListComp _ [_] _ _ => cm && decide (sc.names.lookup y = some .local)
      | _, _, _, _ => false) else decide (swOf sc tg v = some none)))))
    | _ => false)
  | .par i j a b, sc, cs, cm, s => (match s with
    | .Assign [.Tuple [.Name x px, .Name y py] kt pt] (.Tuple [ea, eb] k2 pt2) _ => cm && (decide (swOf sc (.Tuple [.Name x px, .Name y py] kt pt) (.Tuple [ea, eb] k2 pt2) = some (some [x, y])) && (decide (N[i]? = some x) && (decide (N[j]? = some y) && (decide (i ≠ j) &&
        (decide (sc.names.lookup x = some .local) && (decide (sc.names.lookup y = some .local) && (noStar ea && (noStar eb && (ckE T N a sc cs cm ea && ckE T N b sc cs cm eb)))))))))
    | _ => false)
  | .aug i op c, sc, cs, cm, s => (match s with
    | .AugAssign (.Name x _) op' e _ => decide (op = op') && ((decide (op = .Add) || decide (op = .Sub)) && (decide (N[i]? = some x) && (locB sc cs x && ckE T N c sc cs cm e)))
    | _ => false)
  | .ex c, sc, cs, cm, s => (match s with
    | .Expr e _ => noComp e && ckE T N c sc cs cm e
    | _ => false)
  | .pass, _, _, _, s => (match s with
    | .Pass _ => true
    | .Expr (.Constant (.str _) _ _) _ => true
    | _ => false)
  | .brk, _, _, _, s => (match s with
    | .Break _ => true
    | _ => false)
  | .cont, _, _, _, s => (match s with
    | .Continue _ => true
    | _ => false)
  | .ite t a b, sc, cs, cm, s => (match s with
    | .If e x y _ => ckE T N t sc cs cm e && (ckSs T N a sc cs cm x && ckSs T N b sc cs cm y)
    | _ => false)
  | .for_ t it b, sc, cs, cm, s => (match s with
    | .For tg iter body [] _ => cm && (noSet iter && (ckI T N it sc cs cm tg iter && (ckT T N t sc cs cm tg && ckSs T N b sc cs cm body)))
    | _ => false)
  | .while_ t b, sc, cs, cm, s => (match s with
    | .While e body [] _ => cm && (ckE T N t sc cs cm e && ckSs T N b sc cs cm body)
    | _ => false)
  | .ret c, sc, cs, cm, s => (match s with
    | .Return (some e) _ => ckE T N c sc cs cm e
    | _ => false)
  | .retN, _, _, _, s => (match s with
    | .Return none _ => true
    | _ => false)
  | .fz _, _, _, _, _ => false
  | .raise c a, sc, cs, cm, s => (match s with
    | .Raise (some (.Call (.Name x _) [arg] [] _)) none _ => cm && (decide (T.cls[c]? = some x) && (glB sc x && (match a with
      | none => (match arg with
        | .Constant (.str _) _ _ => decide (T.excF c = some none)
        | _ => false)
      | some ce => (match T.excF c with
        | some (some _) => noStar arg && ckE T N ce sc cs cm arg
        | _ => false))))
    | _ => false)
  | .try_ b c i h, sc, cs, cm, s => (match s with
    | .Try body [.ExceptHandler (some (.Name x _)) (some n) (b0 :: suite) _] [] [] _ => cm && (decide (N[i]? = some n) && (decide (sc.names.lookup n = some .local) && (decide (T.cls[c]? = some x) && (glB sc x && (ckSs T N b sc cs true body && ckSs T N h sc cs false (b0 :: suite))))))
    | _ => false)
  | .tryT b, sc, cs, cm, s => (match s with
    | .Try body (_ :: _) [] [] _ => ckSs T N b sc cs cm body
    | _ => false)
  | .tryN b c h, sc, cs, cm, s => (match s with
    | .Try body [.ExceptHandler (some (.Name x _)) none (b0 :: suite) _] [] [] _ => cm && (decide (T.cls[c]? = some x) && (glB sc x && (ckSs T N b sc cs true body && ckSs T N h sc cs false (b0 :: suite))))
    | _ => false)
  | .no, _, _, _, _ => true
def ckSs (T : Tbl) (N : List Str) : CSs → Scope → Scope → Bool → List Stmt → Bool
  | .nil, _, _, _, ss => ss.isEmpty
  | .cons c cc, sc, cs, cm, ss => (match c with
    | .fz _ => ckSs T N cc sc cs cm ss
    | _ => (match ss with
      | [] => false
      | s :: ss => ckS T N c sc cs cm s && ckSs T N cc sc cs cm ss))
end
/-- where a statement stands -/
structure SiteS (T : Tbl) (call : ACall) (k : Nat) (N : List Str) (sc cs : Scope) (cm : Bool) (Pn : PX) (X : Cx) : Prop where
  st : Site T call k N sc cs cm Pn X
  kd : sc.kind = .function
  po : cm = true → PassesOwn (model X.prog X.w) X.A X.env X.xe
  sk : cm = true → X.stack = X.env :: X.outer ∧ X.env.frame = some X.env.locals
theorem blk_of {T : Tbl} {call : ACall} {k : Nat} {N : List Str} {sc cs : Scope} {X : Cx} {m : Bool} {elt : CE} {tg : CT} {own : List (Str × Nat)} {it : CI} {ts : CEs} {xe xt xi : Expr} {xifs : List Expr} {n : Int} {scope : Scope} {p : Pos} (st : Site T call k N sc cs true noPn X)
    (h : ckE T N (.comp m elt tg own it ts) sc cs true (.ListComp xe [⟨xt, xi, xifs, n⟩] scope p) = true) : n = 0 ∧ Blk T call X xe xt xi xifs scope own elt tg it ts := by
  unfold ckE at h
  dsimp only at h
  obtain ⟨h0, h⟩ := and2 h
  obtain ⟨h1, h⟩ := and2 h
  obtain ⟨h2, h⟩ := and2 h
  obtain ⟨h3, h⟩ := and2 h
  obtain ⟨h4, h⟩ := and2 h
  obtain ⟨h5, h⟩ := and2 h
  obtain ⟨h6, h⟩ := and2 h
  obtain ⟨h7, h⟩ := and2 h
  obtain ⟨h8, h9⟩ := and2 h
  have hb : BlkOk X.N X.env.scope scope own := by
    rw [st.hN, st.hsc]
    exact blkOk_by h2
  exact ⟨of_decide_eq_true h1, hb, CT.ownB h3, sndI it st h6, h4, fun s H C cl fp => sndG tg (st.block scope s H C cl fp) h7, fun s H C cl fp => sndEs ts (st.block scope s H C cl fp) h8, of_decide_eq_true h5, fun s H C cl fp => sndE elt (st.block scope s H C cl fp) h9⟩
mutual
theorem sndS {T : Tbl} {call : ACall} {k : Nat} {N : List Str} : ∀ (c : CS) {sc cs : Scope} {cm : Bool} {Pn : PX} {X : Cx} {s : Stmt}, SiteS T call k N sc cs cm Pn X → ckS T N c sc cs cm s = true → SndS T call X Pn s c
  | .asg t c, sc, cs, cm, Pn, X, s, q, h => by
    unfold ckS at h
    split at h
    · rename_i tg v p
      obtain ⟨h1, h⟩ := and2 h
      obtain ⟨h2, h⟩ := and2 h
      obtain ⟨h3, h⟩ := and2 h
      obtain ⟨h4, h5⟩ := and2 h
      clear h
      have hsw := swpB_ok (tg := tg) (l := p.line) q.st.hsc q.kd h2
      by_cases hs : swpB sc tg v = true
      · rw [if_pos hs] at h5
        rw [hs] at hsw
        split at h5
        · rename_i i m elt ct own it ts y py xe gen scope pp _ _
          obtain ⟨h6, h7⟩ := and2 h5
          have e0 := q.st.tt h6
          subst h6 e0
          obtain ⟨xt, xi, xifs, n⟩ := gen
          obtain ⟨e1, b⟩ := blk_of q.st h3
          subst e1
          have hg := h4
          unfold ckT at hg
          dsimp only at hg
          obtain ⟨g1, g2⟩ := and2 hg
          exact sndS_setLc (q.st.calm rfl).1 (by rw [q.st.hN]; exact q.st.nd) (by rw [q.st.hN]; exact of_decide_eq_true g1) (by rw [q.st.hsc]; exact of_decide_eq_true h7) hsw b
        · cases h5
      · rw [if_neg hs] at h5
        have hs2 : swpB sc tg v = false := by simpa using hs
        rw [hs2] at hsw
        exact sndS_asg (sndE c q.st h3) (sndG t q.st h4) hsw (swOf_ok q.st.hsc q.kd (of_decide_eq_true h5)) h1
    · cases h
  | .par i j a b, sc, cs, cm, Pn, X, s, q, h => by
    unfold ckS at h
    split at h
    · obtain ⟨h0, hr⟩ := and2 h
      clear h
      have e0 := q.st.tt h0
      subst h0 e0
      obtain ⟨h1, hr⟩ := and2 hr
      obtain ⟨h2, hr⟩ := and2 hr
      obtain ⟨h3, hr⟩ := and2 hr
      obtain ⟨h4, hr⟩ := and2 hr
      obtain ⟨h5, hr⟩ := and2 hr
      obtain ⟨h6, hr⟩ := and2 hr
      obtain ⟨h7, hr⟩ := and2 hr
      obtain ⟨h8, hr⟩ := and2 hr
      obtain ⟨h9, h10⟩ := and2 hr
      exact sndS_par (q.st.calm rfl).1 (by rw [q.st.hN]; exact q.st.nd) (by rw [q.st.hN]; exact of_decide_eq_true h2) (by rw [q.st.hN]; exact of_decide_eq_true h3) (of_decide_eq_true h4) (by rw [q.st.hsc]; exact of_decide_eq_true h5) (by rw [q.st.hsc]; exact of_decide_eq_true h6) h7 h8
        (sndE a q.st h9) (sndE b q.st h10) (swOf_ok q.st.hsc q.kd (of_decide_eq_true h1))
    · cases h
  | .aug i op c, sc, cs, cm, Pn, X, s, q, h => by
    unfold ckS at h
    split at h
    · obtain ⟨h1, h⟩ := and2 h
      obtain ⟨h2, h⟩ := and2 h
      obtain ⟨h3, h⟩ := and2 h
      obtain ⟨h4, h5⟩ := and2 h
      have e := of_decide_eq_true h1
      subst e
      obtain ⟨l1, l2⟩ := locB_ok q.st h4
      exact sndS_aug (by rw [q.st.hN]; exact q.st.nd) (by rw [q.st.hN]; exact of_decide_eq_true h3) l1 l2 ((Bool.or_eq_true_iff.mp h2).elim (fun z => .inl (of_decide_eq_true z)) fun z => .inr (of_decide_eq_true z)) (sndE c q.st h5)
    · cases h
  | .ex c, sc, cs, cm, Pn, X, s, q, h => by
    unfold ckS at h
    split at h
    · obtain ⟨h1, h2⟩ := and2 h
      exact sndS_ex h1 (sndE c q.st h2)
    · cases h
  | .pass, sc, cs, cm, Pn, X, s, q, h => by
    unfold ckS at h
    split at h
    · exact sndS_pass
    · exact sndS_doc
    · cases h
  | .brk, sc, cs, cm, Pn, X, s, q, h => by
    unfold ckS at h
    split at h
    · exact sndS_brk
    · cases h
  | .cont, sc, cs, cm, Pn, X, s, q, h => by
    unfold ckS at h
    split at h
    · exact sndS_cont
    · cases h
  | .ite t a b, sc, cs, cm, Pn, X, s, q, h => by
    unfold ckS at h
    split at h
    · obtain ⟨h1, h⟩ := and2 h
      obtain ⟨h2, h3⟩ := and2 h
      exact sndS_ite (sndE t q.st h1) (sndSs a q h2) (sndSs b q h3)
    · cases h
  | .for_ t it b, sc, cs, cm, Pn, X, s, q, h => by
    unfold ckS at h
    split at h
    · obtain ⟨h0, hr⟩ := and2 h
      clear h
      have e0 := q.st.tt h0
      subst h0 e0
      obtain ⟨h1, hr⟩ := and2 hr
      obtain ⟨h2, hr⟩ := and2 hr
      obtain ⟨h3, h4⟩ := and2 hr
      exact sndS_for (q.po rfl) (q.st.calm rfl).1 h1 (sndI it q.st h2) (sndG t q.st h3) (sndSs b q h4)
    · cases h
  | .while_ t b, sc, cs, cm, Pn, X, s, q, h => by
    unfold ckS at h
    split at h
    · obtain ⟨h0, hr⟩ := and2 h
      clear h
      have e0 := q.st.tt h0
      subst h0 e0
      obtain ⟨h1, h2⟩ := and2 hr
      exact sndS_while (q.po rfl) (sndE t q.st h1) (sndSs b q h2)
    · cases h
  | .ret c, sc, cs, cm, Pn, X, s, q, h => by
    unfold ckS at h
    split at h
    · exact sndS_ret (sndE c q.st h)
    · cases h
  | .retN, sc, cs, cm, Pn, X, s, q, h => by
    unfold ckS at h
    split at h
    · exact sndS_retN
    · cases h
  | .fz _, sc, cs, cm, Pn, X, s, q, h => by
    unfold ckS at h
    cases h
  | .raise c none, sc, cs, cm, Pn, X, s, q, h => by
    unfold ckS at h
    split at h
    · rename_i x _ arg _ _
      obtain ⟨h0, hr⟩ := and2 h
      clear h
      have e0 := q.st.tt h0
      subst h0 e0
      obtain ⟨h1, hr⟩ := and2 hr
      obtain ⟨h2, h3⟩ := and2 hr
      obtain ⟨g1, g2⟩ := glB_ok q.st h2
      clear hr
      dsimp only at h3
      split at h3
      · exact sndS_raise0 q.st (of_decide_eq_true h1) g1 g2 (of_decide_eq_true h3)
      · cases h3
    · cases h
  | .raise c (some ce), sc, cs, cm, Pn, X, s, q, h => by
    unfold ckS at h
    split at h
    · rename_i x _ arg _ _
      obtain ⟨h0, hr⟩ := and2 h
      clear h
      have e0 := q.st.tt h0
      subst h0 e0
      obtain ⟨h1, hr⟩ := and2 hr
      obtain ⟨h2, h3⟩ := and2 hr
      obtain ⟨g1, g2⟩ := glB_ok q.st h2
      clear hr
      dsimp only at h3
      split at h3
      · rename_i f he
        obtain ⟨h5, h6⟩ := and2 h3
        exact sndS_raise1 q.st (of_decide_eq_true h1) g1 g2 he h5 (sndE ce q.st h6)
      · cases h3
    · cases h
  | .try_ b c i hh, sc, cs, cm, Pn, X, s, q, h => by
    unfold ckS at h
    split at h
    · obtain ⟨h0, hr⟩ := and2 h
      clear h
      have e0 := q.st.tt h0
      subst h0 e0
      obtain ⟨h1, hr⟩ := and2 hr
      obtain ⟨h2, hr⟩ := and2 hr
      obtain ⟨h3, hr⟩ := and2 hr
      obtain ⟨h4, hr⟩ := and2 hr
      obtain ⟨h5, h6⟩ := and2 hr
      obtain ⟨g1, g2⟩ := glB_ok q.st h4
      exact sndS_try q.st (q.sk rfl).1 (q.sk rfl).2 (by rw [q.st.hN]; exact of_decide_eq_true h1) (of_decide_eq_true h2) (of_decide_eq_true h3) g1 g2
        (fun pn xe po => sndSs b ⟨q.st.tr pn xe, q.kd, fun _ => po, q.sk⟩ h5) (fun a oe cls d pn hz hf => sndSs hh ⟨q.st.suite hz hf, q.kd, fun z => absurd z (by decide), fun z => absurd z (by decide)⟩ h6)
    · cases h
  | .no, sc, cs, cm, Pn, X, s, q, h => ⟨fun hid W tk => ⟨fun pins s σ H D I q => by
      obtain ⟨_, _, _, _, hw, _⟩ := q
      exact hw.elim⟩⟩
  | .tryN b c hh, sc, cs, cm, Pn, X, s, q, h => by
    unfold ckS at h
    split at h
    · obtain ⟨h0, hr⟩ := and2 h
      clear h
      have e0 := q.st.tt h0
      subst h0 e0
      obtain ⟨h3, hr⟩ := and2 hr
      obtain ⟨h4, hr⟩ := and2 hr
      obtain ⟨h5, h6⟩ := and2 hr
      obtain ⟨g1, g2⟩ := glB_ok q.st h4
      exact sndS_tryN q.st (q.sk rfl).1 (q.sk rfl).2 (of_decide_eq_true h3) g1 g2
        (fun pn xe po => sndSs b ⟨q.st.tr pn xe, q.kd, fun _ => po, q.sk⟩ h5) (fun a oe cls d pn hz hf => sndSs hh ⟨q.st.suite hz hf, q.kd, fun z => absurd z (by decide), fun z => absurd z (by decide)⟩ h6)
    · cases h
  | .tryT b, sc, cs, cm, Pn, X, s, q, h => by
    unfold ckS at h
    split at h
    · exact ⟨fun hid W tk => PS.weak (ps_try_thru0 ((sndSs b ⟨q.st.nox, q.kd, fun _ => PassesOwn.never, q.sk⟩ h).pss hid (fun _ _ _ _ => False) takes0)) fun D σ H z => by
        obtain ⟨ρ, μ, A, s2, hw, kd⟩ := z
        exact ⟨ρ, μ, _, s2, hw, ⟨kd.nx, kd.rt, kd.bk, kd.ct, fun _ _ _ _ _ _ _ _ _ _ _ z => z⟩⟩⟩
    · cases h
theorem sndSs {T : Tbl} {call : ACall} {k : Nat} {N : List Str} : ∀ (c : CSs) {sc cs : Scope} {cm : Bool} {Pn : PX} {X : Cx} {s : List Stmt}, SiteS T call k N sc cs cm Pn X → ckSs T N c sc cs cm s = true → SndSs T call X Pn s c
  | .nil, sc, cs, cm, Pn, X, s, q, h => by
    unfold ckSs at h
    cases s with
    | nil => exact sndSs_nil
    | cons _ _ => cases h
  | .cons c cc, sc, cs, cm, Pn, X, s, q, h => by
    unfold ckSs at h
    split at h
    · exact sndSs_fz (sndSs cc q h)
    · cases s with
      | nil => cases h
      | cons s ss =>
        obtain ⟨h1, h2⟩ := and2 h
        exact sndSs_cons (sndS c q h1) (sndSs cc q h2)
end
end Fk
end
section
set_option maxHeartbeats 8000000
/-! Every def does what its core says, so many calls deep. -/
namespace Fk
open PySem PySem.Spec PyProof.Rows L2
/-- a constant of a dict of the top -/
def dDv : D → Option He.Dv
  | .non => some .non
  | .bl b => some (.bl b)
  | .int i => some (.int i)
  | .str x => some (.str x)
  | _ => none
def dV : D → V
  | .non => .non
  | .bl b => .bl b
  | .int i => .int i
  | .str x => .str x
  | _ => .non
/-- the same, with None for what is no constant -/
def dvD (d : D) : He.Dv := (dDv d).getD .non
theorem dvD_v {K : PySem.W.Frag} {d : D} : (dvD d).v K = dV d := by cases d <;> rfl
theorem dDv_ok {p : D} (h : (dDv p).isSome = true) {S : Sg} {μ : Mem} {H : Hp} : Dat S μ H (dV p) p := by
  cases p <;> first | (cases h; done) | constructor
theorem dats_dDv {S : Sg} {μ : Mem} {H : Hp} : ∀ {ds : List D}, (ds.all fun d => (dDv d).isSome) = true → Dats S μ H (ds.map dV) ds
  | [], _ => .nil
  | d :: ds, h => by
    obtain ⟨h1, h2⟩ := and2 (show ((dDv d).isSome && ds.all fun d => (dDv d).isSome) = true from h)
    exact .cons (dDv_ok h1) (dats_dDv h2)
structure FdOk (T : Tbl) (K : PySem.W.Frag) (fd : Fdef) : Prop where
  fn : ∃ fdt dd, FunD K fd.name fd.qual (defArgs fd.st) (defBody fd.st) (defScope fd.st) [] (fd.kw.map fun q => (q.1, dV q.2)) (He.fAd K fd.at_) fdt ∧ Vals ((fd.kw.map (·.2)).map dV) dd ∧ Binds K fdt fd.ps dd ∧ ∀ kc ∈ fd.kcs, ∃ dd', Vals ((fd.kw.map (·.2)).map dV) dd' ∧ KBd K fdt fd.ps dd' kc.1 kc.2
  kc : ((fd.kw.map (·.2)).all fun d => (dDv d).isSome) = true
  sc : FnScope fd.N fd.ps (defScope fd.st)
  ck : ckSs T fd.N fd.body (defScope fd.st) (defScope fd.st) true (defBody fd.st) = true
theorem Dats.slots {S : Sg} {μ : Mem} {H : Hp} {vs : List V} {ds : List D} (r : Dats S μ H vs ds) (N : List Str) (i : Nat) (d : D) (e : (ds.map some ++ List.replicate (N.length - ds.length) none)[i]? = some (some d)) : ∃ v, (L2.start N vs)[i]? = some (some v) ∧ Dat S μ H v d := by
  have hl := r.length
  by_cases hi : i < ds.length
  · rw [List.getElem?_append_left (by simpa using hi), List.getElem?_map] at e
    cases q : ds[i]? with
    | none => rw [q] at e; cases e
    | some d' =>
      rw [q] at e
      cases e
      obtain ⟨v, h1, h2⟩ := r.get' q
      refine ⟨v, ?_, h2⟩
      unfold L2.start
      rw [List.getElem?_append_left (by rw [List.length_map, hl]; exact hi), List.getElem?_map, h1]
      rfl
  · rw [List.getElem?_append_right (by simpa using hi), List.getElem?_replicate] at e
    split at e <;> cases e
section
variable {P : Program} {w : World} {K : PySem.W.Frag} {mg : Str → Option Value} {base : Heap} {T : Tbl}
/-- the own exceptions' __init__ -/
def XsOk (P : Program) (w : World) (K : PySem.W.Frag) (mg : Str → Option Value) (base : Heap) (T : Tbl) : Prop := ∀ (c f : Nat), T.excF c = some (some f) → f < T.flds.length ∧ OexC K (cA T K c) ∧ ∃ (fi : Addr) (fdt : FuncData) (ps : List Str), PySem.W.findIn K (.ref (cA T K c)) "__init__" = some (some (.ref fi)) ∧
  PySem.W.typeIn K (.ref fi) = some (.type "function") ∧ FnG P w K mg base 4 fi fdt ps (spX T K c f) ∧ Binds K fdt ps []
theorem callN_ok (tk : TOk T K mg w) (fds : ∀ (f : Nat) (fd : Fdef), T.fs[f]? = some fd → FdOk T K fd) (xs : XsOk P w K mg base T) : ∀ (n f : Nat) (fd : Fdef), T.fs[f]? = some fd → FnB P w K mg base (2 * n + 4) (He.fAd K fd.at_) (lSp T K (callN T n f)) ∧ ∀ kc ∈ fd.kcs, FnK P w K mg base (2 * n + 4) (He.fAd K fd.at_) kc.1 kc.2 (lSp T K (callN T n f))
  | 0, f, fd, hf => ⟨⟨fun A outer s H us vs Q E _ _ _ _ h => by obtain ⟨hid, ds, μ, Φ, Ψ, _, _, h, _⟩ := h; exact h.elim⟩, fun kc _ => ⟨fun A outer s H us vs Q E _ _ _ _ _ h => by obtain ⟨hid, ds, μ, Φ, Ψ, _, _, h, _⟩ := h; exact h.elim⟩⟩
  | n + 1, f, fd, hf => by
    obtain ⟨⟨fdt, dd, F, vd, B, BK⟩, kc, sc, ck⟩ := fds f fd hf
    have ih := callN_ok tk fds xs n
    have key : FnG P w K mg base (2 * n + 5 + 1) (He.fAd K fd.at_) fdt fd.ps (fun vs H Q E => ∃ us, vs = us ++ (fd.kw.map (·.2)).map dV ∧ lSp T K (callN T (n + 1) f) us H Q E) := by
      refine FnG.of_body (k := 2 * n + 5) F sc (fun vs H Q E h => ?_) (fun cdv A outer s H vs Q E hg hr h => ?_)
      · obtain ⟨us, rfl, hid, ds, μ, Φ, Ψ, mm, r, h, kq, kx⟩ := h
        have h2 : (match T.fs[f]? with
          | some fd => ds.length + fd.kw.length = fd.ps.length ∧ wSs T (callN T n) fd.body { nx := fun _ μ' => Φ .non μ', rt := Φ, ex := fun c fs _ μ' => Ψ c fs μ' } ((ds ++ fd.kw.map (·.2)).map some ++ List.replicate (fd.N.length - fd.ps.length) none) μ
          | none => False) := h
        rw [hf] at h2
        rw [List.length_append, List.length_map, List.length_map, r.length]
        exact h2.1
      · have site : SiteS T (callN T n) (2 * n + 4) fd.N (defScope fd.st) (defScope fd.st) true noPn (cxOf (L2.CX P w) P w K mg base fd.N fd.qual (defScope fd.st) (He.fAd K fd.at_) cdv A outer s H E) := {
          st := {
            hN := rfl
            nd := sc.nd
            hsc := rfl
            fn := fun _ _ => rfl
            calm := fun _ => ⟨rfl, hr, rfl⟩
            gd := hg
            un := hr.units
            tk := tk
            fs := fun f fd hf => (ih f fd hf).1
            ks := fun f fd kc hf hk => (ih f fd hf).2 kc hk
            xs := fun c f h => by
              obtain ⟨h1, h2, fi, fdt, ps, h3, h4, h5, h6⟩ := xs c f h
              exact ⟨h1, h2, fi, fdt, ps, h3, h4, h5.mono (by omega), h6⟩
            pn := fun _ _ _ h => h.elim }
          kd := sc.kind
          po := fun _ => passes_of rfl
          sk := fun _ => ⟨rfl, rfl⟩ }
        have tkE : Takes (cxOf (L2.CX P w) P w K mg base fd.N fd.qual (defScope fd.st) (He.fAd K fd.at_) cdv A outer s H E) (fun cls d _ H => E cls d H) := takes_of rfl rfl rfl rfl
        have sn := sndSs fd.body site ck
        obtain ⟨us, rfl, hid, ds, μ, Φ, Ψ, mm, r, h, kq, kx⟩ := h
        have h2 : (match T.fs[f]? with
          | some fd => ds.length + fd.kw.length = fd.ps.length ∧ wSs T (callN T n) fd.body { nx := fun _ μ' => Φ .non μ', rt := Φ, ex := fun c fs _ μ' => Ψ c fs μ' } ((ds ++ fd.kw.map (·.2)).map some ++ List.replicate (fd.N.length - fd.ps.length) none) μ
          | none => False) := h
        rw [hf] at h2
        have r2 := r.append (dats_dDv (S := mkS T K hid) (μ := μ) (H := H) kc)
        have hl : (ds ++ fd.kw.map (·.2)).length = fd.ps.length := by
          rw [List.length_append, List.length_map]
          exact h2.1
        have h3 := h2.2
        rw [← hl] at h3
        refine ⟨_, sn.pss hid _ tkE, _, μ, _, ⟨mm, fun i d e => ?_, ?_⟩, h3, ?_⟩
        · obtain ⟨v, q1, q2⟩ := r2.slots fd.N i d e
          exact ⟨v, q1, .of q2⟩
        · unfold L2.start
          simp only [List.length_append, List.length_map, List.length_replicate, r.length]
        · exact ⟨fun ρ' μ' σ' H' g s2 b => kq .non μ' .non H' g s2.mm .non b, fun d μ' v H' g m r b => kq d μ' v H' g m r b, fun _ _ _ _ _ _ z => z.elim, fun _ _ _ _ _ _ z => z.elim, fun c fs ρ' μ' cls dd σ' H' g s2 x b => kx c fs μ' cls dd H' g s2.mm x b⟩
    refine ⟨key.toB B vd fun vs H Q E h => ⟨vs, rfl, h⟩, fun kc hk => ?_⟩
    obtain ⟨dd', vd', B'⟩ := BK kc hk
    exact key.toK B' vd' fun vs H Q E h => ⟨vs, rfl, h⟩
end
end Fk
end
section
set_option maxHeartbeats 8000000
/-! The law's def called at the end of the top. -/
namespace Fk
open PySem PySem.Spec PyProof.Rows L2
theorem callerA_guards : callerA.guards = some [] := by
  first
    | rfl
    | decide
    | kernel_rfl
/-- the law's def, called with the script -/
theorem law_go {P : Program} {w : World} {K : PySem.W.Frag} {mg mb : Str → Option Value} {k : Nat} {fa a : Addr} {sp : Sp} {s1 : Shared} {vs : List Value} {ns : List Int}
    (KX : K.In s1.heap) (hns : s1.heap.Ns mainGlobals mg) (hb : s1.heap.Ns builtinsNs mb) (hbb : ∀ x : Str, x ≠ "__name__" → mb x = bootBuiltins x) (hlim : s1.heap.NoLimit) (hg : s1.gens = #[])
    (ha : s1.heap.get? a = some { cls := .type "list", data := .seq vs.toArray }) (hi : IntsAre vs ns) (hl : ns.length ≤ sizeLine) (hr : Room k callerA)
    (F : ∀ base : Heap, K.In base → base.Ns mainGlobals mg → FnB P w K mg base k fa sp)
    (hsp : ∀ H : Hp, SqL K H a (ns.map V.int) → sp [.ref a] H (fun v _ => v = .bl true) fun _ _ _ => False) :
    codeAny (model P w) callerA (.call (.ref fa) ⟨[.ref a], []⟩) (fun r s' => r = .ok (.ret (.bool true)) ∧ OldK s1.heap s'.heap ∧ s'.os = s1.os ∧ AllBare s'.gens) s1 := by
  have rv := vals_ints hi
  have lenV := hi.length
  have core : ∀ H : Hp, Only H → SqL K H a (ns.map V.int) → HOk P w H s1.heap → (∀ b, H b ≠ none → b = a) → (H a ≠ none → K.lookup a = none) →
      codeAny (model P w) callerA (.call (.ref fa) ⟨[.ref a], []⟩) (fun r s' => r = .ok (.ret (.bool true)) ∧ OldK s1.heap s'.heap ∧ s'.os = s1.os ∧ AllBare s'.gens) s1 := by
    intro H hO hS hok hA hK
    have up : ∀ {b : Addr} {o : Obj}, s1.heap.get? b = some o → H b = none → (hidT s1.heap H).get? b = some o := fun e n => hidT_get e n
    have noA : ∀ {b : Addr} {o : Obj} {es : Array DictEntry} {ep : Nat}, s1.heap.get? b = some o → o.data = .dict es ep → H b = none := by
      intro b o es ep e d
      by_cases hb : b = a
      · subst hb
        rw [ha] at e
        cases e
        cases (show Data.seq vs.toArray _ = Data.dict es ep from d)
      · cases q : H b with
        | none => rfl
        | some u => exact absurd (hA b (by rw [q]; simp)) hb
    have nsK : ∀ {b : Addr} {m : Str → Option Value}, s1.heap.Ns b m → (hidT s1.heap H).Ns b m := fun {b m} z => let ⟨o, es, ep, e, d, r⟩ := z; ⟨o, es, ep, up e (noA e d), d, r⟩
    have hKb : K.In (hidT s1.heap H) := fun b o e => up (KX b o e) (by
      by_cases hb : b = a
      · subst hb
        cases q : H b with
        | none => rfl
        | some u => rw [hK (by rw [q]; simp)] at e; cases e
      · cases q : H b with
        | none => rfl
        | some u => exact absurd (hA b (by rw [q]; simp)) hb)
    have hM : Mod K mg (hidT s1.heap H) := ⟨hKb, nsK hns, ⟨mb, nsK hb, hbb⟩, let ⟨mc, h1, h2⟩ := hlim; ⟨mc, nsK h1, h2⟩⟩
    have e0 : Env0 P w K mg (hidT s1.heap H) callerA [] s1 H := ⟨rfl, hM, fun b o e => of_hidT e, Nat.le_of_eq (hidT_size _ _), trivial, fun b hb => absurd (show b ∈ ([] : List Addr) from hb) (by simp), hok, .of_eq hg⟩
    refine codeAny_mono ((F _ hKb (nsK hns)).run callerA [] s1 H [.ref a] [.ref a] _ _ callerA_guards hr e0 (.cons rfl .nil) (hsp H hS)) fun r s' h => ?_
    cases r with
    | error e =>
      obtain ⟨_, _, _, _, _, _, _, _, _, _, _, _, z⟩ := h
      exact z.elim
    | ok fl =>
      cases fl with
      | next => exact h.elim
      | brk => exact h.elim
      | cont => exact h.elim
      | ret u =>
        obtain ⟨v, H', os, bare, un, hok', r', q⟩ := h
        have q' : v = .bl true := q
        subst q'
        cases (show u = Value.bool true from r')
        refine ⟨rfl, OldK.of_keep fun b o e => ?_, os, bare⟩
        rcases hO b with q | ⟨ob, xs, q⟩
        · exact un.keep b o e q (by intro z; exact absurd (show b ∈ ([] : List Addr) from z) (by simp)) (by simp)
        · obtain ⟨e1, _⟩ := hok b _ q
          obtain ⟨e2, _⟩ := hok' b _ (un.frzs b ob _ q)
          rw [e] at e1
          cases e1
          exact e2
  cases hk : K.lookup a with
  | some o =>
    have e := KX a o hk
    rw [ha] at e
    cases e
    refine core (fun _ => none) (fun _ => .inl rfl) (.inr ⟨_, vs.toArray, _, hk, rfl, rfl, rfl, by rw [List.size_toArray, lenV]; exact hl, by simpa using rv⟩) (fun b u z => by cases (show (none : Option HO) = some u from z)) (fun b z => absurd rfl z) fun z => absurd rfl z
  | none =>
    refine core (fun b => if b = a then some (.frz { cls := .type "list", data := .seq vs.toArray } (.lst (ns.map V.int))) else none) (fun b => ?_) (.inl (.inr ⟨{ cls := .type "list", data := .seq vs.toArray }, if_pos rfl⟩)) (fun b u z => ?_) (fun b z => ?_) fun _ => hk
    · by_cases hb : b = a
      · exact .inr ⟨_, _, if_pos hb⟩
      · exact .inl (if_neg hb)
    · by_cases hb : b = a
      · cases (if_pos hb).symm.trans z
        subst hb
        exact ⟨ha, by rw [List.length_map]; exact hl, vs, _, rv, ha⟩
      · cases (if_neg hb).symm.trans z
    · by_cases hb : b = a
      · exact hb
      · exact absurd (if_neg hb) z
abbrev noM : Mem := fun _ => none
/-- the script as data -/
theorem lSp_script {T : Tbl} {K : PySem.W.Frag} {A : List D → Mem → AQ → AX → Prop} {ns : List Int} {a : Addr} {H : Hp} (hS : SqL K H a (ns.map V.int)) (h : A [.ro (ns.map D.int)] noM (fun r _ => r = .bl true) noX) : lSp T K A [.ref a] H (fun v _ => v = .bl true) (fun _ _ _ => False) := by
  refine ⟨fun _ => False, _, noM, _, _, ⟨fun _ _ e => (by cases e), fun _ z => False.elim z⟩, .cons (.ro ?_ dats_ints) .nil, h, fun d μ' v H' g m r q => ?_, fun c fs μ' cls dd H' g m x z => z⟩
  · rcases hS with h | h
    · exact .inl ⟨rfl, fun z => z, h⟩
    · exact .inr h
  · have e : d = .bl true := q
    subst e
    cases r
    rfl
/-- a law: what is left is the core's answer -/
theorem walk_law {l : PySem.W.OpenLaw} {n k : Nat} {q : Program} {loose : List Str} {XP : (Str → Option Value) → Heap → Prop} {YP : World → Heap → Prop} {d : DefRec}
    (hn : l.most = some n) (hn2 : n ≤ sizeLine) (hdf : d.params.defaults = []) (hr : Room k callerA)
    (F : ∀ (w : World) (mg : Str → Option Value) (fa : Addr) (h : Heap), YP w h → h.Ns mainGlobals mg → mg d.name = some (.ref fa) →
      ∃ (K : PySem.W.Frag) (T : Tbl) (A : List D → Mem → AQ → AX → Prop), K.In h ∧
        (∀ ns : List Int, ns.length ≤ n → (∀ k ∈ ns, Builtin.Int.intBits k ≤ 1048576) → A [.ro (ns.map D.int)] noM (fun r _ => r = .bl true) noX) ∧
        ∀ base : Heap, K.In base → base.Ns mainGlobals mg → FnB l.prog w K mg base k fa (lSp T K A)) :
    PySem.W.WalkO q loose XP YP l.row.toRowW d [] (fun f vs => PySem.call f vs) := by
  refine Att.attach_callB hn hdf fun w s0 s1 mg mb fa o pm cd doc a vs ns G Y ho hd hcd hmg hobj hints hlen hbits hg => ?_
  obtain ⟨K, T, A, KX, hA, hF⟩ := F w mg fa _ Y G.T.g hmg
  exact law_go KX G.T.g G.T.b G.T.builtins G.T.nolimit hg hobj hints (Nat.le_trans hlen hn2) hr hF fun H hS => lSp_script hS (hA ns hlen hbits)
end Fk
end
section
set_option maxHeartbeats 8000000
/-! An own exception's __init__: C0.__init__(self, ".."), self.f = v. -/
namespace Fk
open PySem PySem.Spec PyProof.Rows L2
section
variable {X : Cx} {e : Expr} {es : List Expr} {ta : TA}
theorem pe_clsinit {x : Str} {C0 : Addr} {p1 p2 pos : Pos} (hg : Gl X x) (hm : X.mg x = some (.ref C0)) (hd : (x == ("__debug__" : Str)) = false)
    (tg : PySem.W.specialIn X.K (.ref C0) "__getattribute__" = some (some (.builtin "type.__getattribute__"))) (rd : PySem.W.readsIn X.K C0 (.type "type") = true)
    (vV : PySem.W.findCls X.K (.ref C0) (.type "type") "__init__" = some (.val (.builtin "ValueError.__init__"))) (ha : PA X (e :: es) ta)
    (h1 : (e :: es).all noStar = true) (h3 : decide ((e :: es).length < 30) = true) (h4 : (p2.endLine == pos.line) = true)
    (he : starEach (e :: es) X.env = (false, eval e X.env) :: starEach es X.env := by rfl) (hpl : (backTo pos (starEach es X.env)).any (·.1) = false := by rfl) :
    PE X (.Call (.Attribute (.Name x p1) "__init__" p2) (e :: es) [] pos) (tVeI X.K ta) := by
  refine ⟨fun pins s σ H Q I h => ?_⟩
  refine PySem.W.methodCall_KW (pl := do return (← importBound (.Name x p1) X.env).getD true) (ld_glob I hg hm ?_ hd) (meth_tree (rfl : noSup (.Name x p1) = true) h1 h3 h4)
  refine PySem.W.method_cls (I.tok _).kIn tg ?_
  refine PySem.W.cls_value (mc := .type "type") (I.tok _).kIn rd vV (by decide +kernel) ?_
  show wpAny _ _ (callWith pos (Value.builtin "ValueError.__init__") [] (backTo pos (starEach (e :: es) X.env)) []) _ _ _
  refine PyProof.Rows.callWith_method1 (thn (ha.run pos pins _ σ H _ ((I.tok _).tok _) h) fun us s1 ⟨vs, H1, I1, r1, a, C, ws, ev, hl, T, ea, q⟩ => ?_) he hpl
  subst ev
  cases r1 with
  | @cons _ u0 _ ur ra rw' =>
    obtain rfl : u0 = Value.ref a := ra
    have hlen : ur.length ≤ sizeLine := by
      rw [← Paired.length rw', sizeLine_eq]
      omega
    exact oinit_ok T I1 ea hlen fun s' J => ⟨.non, H1, J, rfl, q⟩
end
/-- C0.__init__(self, ".."); self.f = v -/
def xiB (x z y f : Str) (sc : Scope) : List Stmt → Bool
  | [.Expr (.Call (.Attribute (.Name x' _) i q) [.Name z1 _, .Constant (.str _) _ _] [] r) _, .Assign [.Attribute (.Name z2 _) f' _] (.Name y' _) _] =>
    decide (x' = x) && (decide (i = "__init__") && (decide (z1 = z) && (decide (z2 = z) && (decide (f' = f) && (decide (y' = y) && (glB sc x && (visB sc z && (visB sc y && (q.endLine == r.line)))))))))
  | _ => false
theorem xiB_of {x z y f : Str} {sc : Scope} {b : List Stmt} (h : xiB x z y f sc b = true) : ∃ (m : Str) (j : Nat) (p1 p2 p3 p4 p5 p6 p7 p8 p9 pa : Pos),
    b = [.Expr (.Call (.Attribute (.Name x p1) "__init__" p2) [.Name z p3, .Constant (.str m) j p4] [] p5) p6, .Assign [.Attribute (.Name z p7) f p8] (.Name y p9) pa] ∧ glB sc x = true ∧ visB sc z = true ∧ visB sc y = true ∧ (p2.endLine == p5.line) = true := by
  unfold xiB at h
  split at h
  · obtain ⟨e1, h⟩ := and2 h
    obtain ⟨e2, h⟩ := and2 h
    obtain ⟨e3, h⟩ := and2 h
    obtain ⟨e4, h⟩ := and2 h
    obtain ⟨e5, h⟩ := and2 h
    obtain ⟨e6, h⟩ := and2 h
    obtain ⟨h1, h⟩ := and2 h
    obtain ⟨h2, h⟩ := and2 h
    obtain ⟨h3, h4⟩ := and2 h
    have e1 := of_decide_eq_true e1
    have e2 := of_decide_eq_true e2
    have e3 := of_decide_eq_true e3
    have e4 := of_decide_eq_true e4
    have e5 := of_decide_eq_true e5
    have e6 := of_decide_eq_true e6
    subst e1 e2 e3 e5 e6
    subst e4
    exact ⟨_, _, _, _, _, _, _, _, _, _, _, _, rfl, h1, h2, h3, h4⟩
  · cases h
/-- what K must say of the class whose __init__ is called -/
structure InitC (K : PySem.W.Frag) (C0 : Addr) : Prop where
  tg : PySem.W.specialIn K (.ref C0) "__getattribute__" = some (some (.builtin "type.__getattribute__"))
  rd : PySem.W.readsIn K C0 (.type "type") = true
  vV : PySem.W.findCls K (.ref C0) (.type "type") "__init__" = some (.val (.builtin "ValueError.__init__"))
theorem xinit_ok {P : Program} {w : World} {K : PySem.W.Frag} {mg : Str → Option Value} {base : Heap} {T : Tbl} {c f : Nat} {x z y nm qual : Str} {params : Arguments} {body : List Stmt} {scope : Scope} {dvs : List V} {kws : List (Str × V)} {fi C0 : Addr} {fd : FuncData}
    (F : FunD K nm qual params body scope dvs kws fi fd) (Sc : FnScope [z, y] [z, y] scope) (hb : xiB x z y (fN T f) scope body = true) (hm : mg x = some (.ref C0)) (ic : InitC K C0) (oc : OexC K (cA T K c)) (hno : PySem.W.findIn K (.ref (cA T K c)) (fN T f) = some none) :
    FnG P w K mg base 4 fi fd [z, y] (spX T K c f) := by
  refine FnG.of_body F Sc (fun vs H Q E h => ?_) (fun cdv A outer s H vs Q E hg hr h => ?_)
  · obtain ⟨a, v, rfl, _⟩ := h
    rfl
  · obtain ⟨m, j, p1, p2, p3, p4, p5, p6, p7, p8, p9, pa, rfl, h1, h2, h3, hl⟩ := xiB_of hb
    obtain ⟨g1, g2⟩ := and2 h1
    obtain ⟨v12, v3⟩ := and2 h2
    obtain ⟨v1, v2⟩ := and2 v12
    obtain ⟨u12, u3⟩ := and2 h3
    obtain ⟨u1, u2⟩ := and2 u12
    have gl : Gl (cxOf (L2.CX P w) P w K mg base [z, y] qual scope fi cdv A outer s H E) x := by
      show scope.names.lookup x = _
      exact of_decide_eq_true g1
    have vis : ∀ {q : Str}, (decide (scope.names.lookup q = some .local) || decide (scope.names.lookup q = some .cell) || decide (scope.names.lookup q = some .free)) = true → Vis scope q := fun {q} h => by
      rcases Bool.or_eq_true_iff.mp h with h | h
      · rcases Bool.or_eq_true_iff.mp h with h | h
        · exact .inl (of_decide_eq_true h)
        · exact .inr (.inl (of_decide_eq_true h))
      · exact .inr (.inr (of_decide_eq_true h))
    have vz : Vis (cxOf (L2.CX P w) P w K mg base [z, y] qual scope fi cdv A outer s H E).env.scope z := vis v1
    have vy : Vis (cxOf (L2.CX P w) P w K mg base [z, y] qual scope fi cdv A outer s H E).env.scope y := vis u1
    have pz : ∀ p, PE (cxOf (L2.CX P w) P w K mg base [z, y] qual scope fi cdv A outer s H E) (.Name z p) (tVar 0) := fun p => pe_var rfl vz (nots v2) (nots v3)
    have py : ∀ p, PE (cxOf (L2.CX P w) P w K mg base [z, y] qual scope fi cdv A outer s H E) (.Name y p) (tVar 1) := fun p => pe_var rfl vy (nots u2) (nots u3)
    refine ⟨_, pss_cons (ps_expr (pe_clsinit gl hm (nots g2) ic.tg ic.rd ic.vV (pa_cons (pz p3) (pa_cons pe_str pa_nil)) rfl rfl hl)) (pss_cons (ps_ost (pz p7) (py p9)) pss_nil), ?_⟩
    obtain ⟨a, v, rfl, ha, q⟩ := h
    refine ⟨.ref a, rfl, a, cA T K c, [.str m], rfl, by simp, oc, ha, ?_⟩
    refine ⟨v, rfl, .ref a, rfl, a, cA T K c, rfl, oc, hno, .inl ⟨ha, fun dx h1 h2 => ?_⟩⟩
    exact q dx h1 h2
end Fk
end
section
set_option maxHeartbeats 1000000
/-! What the head must tell of the written part: by a check over the heap behind the top. -/
namespace Fk
open PySem PySem.Spec PyProof.Rows L2
/-- an own exception's __init__: the class's number, the field's, the base class whose __init__ it calls, self's and the argument's name, the def -/
structure Xdef where
  c : Nat
  f : Nat
  base : Str
  z : Str
  y : Str
  fd : Fdef
def Fdef.dd (fd : Fdef) : He.DefD := ⟨fd.at_, fd.name, fd.qual, defArgs fd.st, defBody fd.st, defScope fd.st, [], fd.kw.map fun q => (q.1, dvD q.2)⟩
theorem lookup_mem' {α β : Type} [BEq α] [LawfulBEq α] {a : α} {b : β} : ∀ {l : List (α × β)}, l.lookup a = some b → (a, b) ∈ l
  | [], h => by cases h
  | (c, d) :: r, h => by
    have h2 : (match a == c with | true => some d | false => r.lookup a) = some b := h
    cases q : (a == c) with
    | true =>
      rw [q] at h2
      rw [beq_iff_eq.mp q, Option.some.inj h2]
      exact List.mem_cons_self
    | false =>
      rw [q] at h2
      exact List.mem_cons_of_mem _ (lookup_mem' h2)
/-! ### the checks -/
def mroB (C : Addr) : List Value → Bool
  | .ref C' :: bm => decide (C' = C) && PySem.HandSPX.refsVE bm
  | _ => false
def sltB : List (Option Value) → Bool
  | [_, _, _, _, some (.builtin n), _] => decide (n = "ValueError.__new__")
  | _ => false
theorem mroB_ok {C : Addr} {l : List Value} (h : mroB C l = true) : ∃ bm, l = .ref C :: bm ∧ PySem.HandSPX.refsVE bm = true := by
  unfold mroB at h
  split at h
  · obtain ⟨g1, g2⟩ := and2 h
    have e2 := of_decide_eq_true g1
    subst e2
    exact ⟨_, rfl, g2⟩
  · cases h
theorem sltB_ok {l : List (Option Value)} (h : sltB l = true) : ∃ k0 k1 k2 k3 k5, l = [k0, k1, k2, k3, some (.builtin "ValueError.__new__"), k5] := by
  unfold sltB at h
  split at h
  · have e2 := of_decide_eq_true h
    subst e2
    exact ⟨_, _, _, _, _, rfl⟩
  · cases h
def oexB (K : PySem.W.Frag) (C : Addr) : Bool := match K.lookup C with
  | some ⟨.type t, _, .cls cd, sl⟩ => decide (t = "type") && (mroB C cd.mro && (cd.hasDict && (!cd.hasDel && sltB sl.toList)))
  | _ => false
theorem oexB_ok {K : PySem.W.Frag} {C : Addr} (h : oexB K C = true) : ∃ nm q N bs bm sn sub ab col dd k0 k1 k2 k3 k5, K.lookup C = some (excClassObj nm q C N bs bm true sn sub ab col dd k0 k1 k2 k3 k5 "ValueError.__new__") ∧ PySem.HandSPX.refsVE bm = true := by
  unfold oexB at h
  cases e : K.lookup C with
  | none => rw [e] at h; cases h
  | some o =>
    obtain ⟨oc, od, dt, sl⟩ := o
    rw [e] at h
    cases oc with
    | type t =>
      cases dt with
      | cls cd =>
        obtain ⟨nm, bs, mro, ns, qn, hd, sn, sb, ab, col, dl⟩ := cd
        obtain ⟨h1, h⟩ := and2 h
        obtain ⟨h2, h⟩ := and2 h
        obtain ⟨h3, h⟩ := and2 h
        obtain ⟨h4, h5⟩ := and2 h
        have e1 : t = "type" := of_decide_eq_true h1
        have e3 : hd = true := h3
        have e4 : dl = false := nots h4
        subst e1 e3 e4
        obtain ⟨bm, e2, g2⟩ := mroB_ok h2
        obtain ⟨k0, k1, k2, k3, k5, q⟩ := sltB_ok h5
        have e2' : mro = .ref C :: bm := e2
        subst e2'
        have e6 : sl = #[k0, k1, k2, k3, some (.builtin "ValueError.__new__"), k5] := by
          apply Array.toList_inj.mp
          rw [q]
        subst e6
        exact ⟨_, _, _, _, _, _, _, _, _, _, _, _, _, _, _, rfl, g2⟩
      | _ => cases h
    | _ => cases dt <;> cases h
def oexcB (K : PySem.W.Frag) (C : Addr) : Bool := oexB K C && (He.eqO (PySem.W.findIn K (.ref C) "__setattr__") (some (some (.builtin "object.__setattr__"))) &&
  (decide (PySem.W.subIn K (.ref C) (.type "BaseException") = some true) && (decide (PySem.W.typeIn K (.ref C) = some (.type "type")) && PySem.W.keepIn K (.ref C))))
theorem oexcB_ok {K : PySem.W.Frag} {C : Addr} (h : oexcB K C = true) : OexC K C := by
  obtain ⟨h1, h⟩ := and2 h
  obtain ⟨h2, h⟩ := and2 h
  obtain ⟨h3, h⟩ := and2 h
  obtain ⟨h4, h5⟩ := and2 h
  exact ⟨oexB_ok h1, He.eqO_ok h2, of_decide_eq_true h3, of_decide_eq_true h4, h5⟩
def initcB (K : PySem.W.Frag) (C0 : Addr) : Bool := He.eqO (PySem.W.specialIn K (.ref C0) "__getattribute__") (some (some (.builtin "type.__getattribute__"))) && (PySem.W.readsIn K C0 (.type "type") &&
  (match PySem.W.findCls K (.ref C0) (.type "type") "__init__" with
  | some (.val (.builtin n)) => decide (n = "ValueError.__init__")
  | _ => false))
theorem initcB_ok {K : PySem.W.Frag} {C0 : Addr} (h : initcB K C0 = true) : InitC K C0 := by
  obtain ⟨h1, h⟩ := and2 h
  obtain ⟨h2, h3⟩ := and2 h
  refine ⟨He.eqO_ok h1, h2, ?_⟩
  split at h3
  · rename_i n q
    have e : n = "ValueError.__init__" := of_decide_eq_true h3
    subst e
    exact q
  · cases h3
def clsB (K : PySem.W.Frag) (C : Addr) : Bool := PySem.W.plainGet K C Str.empty && (PySem.W.hasDictIn K C && (PySem.W.plainOver K C && He.eqO (PySem.W.findIn K (.ref C) "__setattr__") (some (some (.builtin "object.__setattr__")))))
theorem clsB_ok {K : PySem.W.Frag} {C : Addr} (h : clsB K C = true) : Cls K C := by
  obtain ⟨h1, h⟩ := and2 h
  obtain ⟨h2, h⟩ := and2 h
  obtain ⟨h3, h4⟩ := and2 h
  exact ⟨h1, h2, h3, He.eqO_ok h4⟩
def insB (K : PySem.W.Frag) (C : Addr) : Bool := clsB K C && (He.eqO (PySem.W.findIn K (.ref C) "__class__") (some (some (.builtin "object.__class__"))) && (He.eqO (PySem.W.specialIn K (.builtin "object.__class__") "__get__") (some (some (.builtin "getset_descriptor.__get__"))) &&
  (decide (PySem.W.takesIn K (.builtin "object.__class__") = some true) && decide (PySem.W.mroIn K C (.type "object") = some true))))
theorem insB_ok {K : PySem.W.Frag} {C : Addr} (h : insB K C = true) : InsOk K C := by
  obtain ⟨h1, h⟩ := and2 h
  obtain ⟨h2, h⟩ := and2 h
  obtain ⟨h3, h⟩ := and2 h
  obtain ⟨h4, h5⟩ := and2 h
  exact ⟨clsB_ok h1, He.eqO_ok h2, He.eqO_ok h3, of_decide_eq_true h4, of_decide_eq_true h5⟩
def exccB (K : PySem.W.Frag) (D : Addr) : Bool := xfB K D && (He.eqO (PySem.W.findIn K (.ref D) "__class__") (some (some (.builtin "object.__class__"))) && (He.eqO (PySem.W.specialIn K (.builtin "object.__class__") "__get__") (some (some (.builtin "getset_descriptor.__get__"))) &&
  (decide (PySem.W.takesIn K (.builtin "object.__class__") = some true) && decide (PySem.W.mroIn K D (.type "object") = some true))))
theorem exccB_ok {K : PySem.W.Frag} {D : Addr} (h : exccB K D = true) : ExcC K D := by
  obtain ⟨h1, h⟩ := and2 h
  obtain ⟨h2, h⟩ := and2 h
  obtain ⟨h3, h⟩ := and2 h
  obtain ⟨h4, h5⟩ := and2 h
  have x := xfB_ok h1
  exact ⟨x.ga, x.gg, x.exC, x.hdC, He.eqO_ok h2, He.eqO_ok h3, of_decide_eq_true h4, of_decide_eq_true h5⟩
def noatB (T : Tbl) (K : PySem.W.Frag) (C : Addr) : Bool := T.flds.all fun f => He.eqO (PySem.W.findIn K (.ref C) f) (some none)
theorem noatB_ok {T : Tbl} {K : PySem.W.Frag} {C : Addr} (h : noatB T K C = true) (g : Nat) (hg : g < T.flds.length) : PySem.W.findIn K (.ref C) (fN T g) = some none := by
  have e : fN T g ∈ T.flds := by
    unfold fN
    rw [List.getD_eq_getElem?_getD, List.getElem?_eq_getElem hg]
    exact List.getElem_mem hg
  exact He.eqO_ok (List.all_eq_true.mp h _ e)
def valB (K : PySem.W.Frag) (a : Addr) (p : Str × D) : Bool := (dDv p.2).isSome && (match PySem.W.nsIn K a p.1 with
  | some (some u) => He.relB (dV p.2) u
  | _ => false)
/-- a constant of the top -/
def gloB (K : PySem.W.Frag) (p : Str × D) : Bool := match p.2 with
  | .ro ds => He.eqO (PySem.W.nsIn K mainGlobals p.1) (some (some (.ref (He.ga K p.1)))) && ((ds.all fun d => (dDv d).isSome) && (match K.lookup (He.ga K p.1) with
    | some ⟨.type c, none, .seq its _, _⟩ => decide (c = "list") && (decide (its.size ≤ sizeLine) && He.relAll (ds.map dV) its.toList)
    | _ => false))
  | d => (dDv d).isSome && (match PySem.W.nsIn K mainGlobals p.1 with
    | some (some u) => He.relB (dV d) u
    | _ => false)
def okB (b : Option (Option Value)) (v : Value) : Bool := He.eqO b (some (some v))
def fnA (T : Tbl) (K : PySem.W.Frag) (f : Nat) : Option Addr := T.fs[f]?.map fun fd => He.fAd K fd.at_
/-- what is looked at -/
def tokB (T : Tbl) (xs : List Xdef) (K : PySem.W.Frag) : Bool :=
  (match K.lookup sysModules with
    | some ⟨.type t, _, _, _⟩ => decide (t = "dict")
    | _ => false) &&
  ((freeNames.all fun x => He.eqO (PySem.W.nsIn K mainGlobals x) (some none)) &&
  ((T.fs.all fun fd => match fd.at_ with
    | (x, none) => okB (PySem.W.nsIn K mainGlobals x) (.ref (He.ga K x))
    | _ => true) &&
  ((T.cls.all fun x => okB (PySem.W.nsIn K mainGlobals x) (.ref (He.ga K x))) &&
  ((T.methL.all fun p => match fnA T K p.2 with
    | some a => clsB K (cA T K p.1.1) && (okB (PySem.W.findIn K (.ref (cA T K p.1.1)) (mN T p.1.2)) (.ref a) && (PySem.W.isFn K (.ref a) && (PySem.W.keepIn K (.ref a) && decide (mN T p.1.2 ∉ T.flds))))
    | none => false) &&
  ((T.initL.all fun p => match fnA T K p.2 with
    | some a => PySem.W.makesIn K (cA T K p.1) && (okB (PySem.W.findIn K (.ref (cA T K p.1)) "__init__") (.ref a) && (PySem.W.isFn K (.ref a) && (PySem.W.keepIn K (.ref (cA T K p.1)) && (insB K (cA T K p.1) && noatB T K (cA T K p.1)))))
    | none => false) &&
  ((T.lenL.all fun p => match fnA T K p.2 with
    | some a => okB (PySem.W.findIn K (.ref (cA T K p.1)) "__len__") (.ref a) && PySem.W.isFn K (.ref a)
    | none => false) &&
  ((T.eqL.all fun p => match fnA T K p.2 with
    | some a => okB (PySem.W.findIn K (.ref (cA T K p.1)) "__eq__") (.ref a) && (PySem.W.isFn K (.ref a) && (okB (PySem.W.findIn K (.ref (cA T K p.1)) "__ne__") (.builtin "object.__ne__") && (insB K (cA T K p.1) &&
        ((kinds.all fun n => PySem.W.notFirst K (cA T K p.1) (.type n)) && T.initL.all fun q => PySem.W.notFirst K (cA T K p.1) (.ref (cA T K q.1))))))
    | none => false) &&
  ((T.isIL.all fun p => insB K (cA T K p.1.1) && decide (PySem.W.kitOne K (.ref (cA T K p.1.1)) (icU T K p.1.2) = some p.2)) &&
  ((T.isXL.all fun p => exccB K (cA T K p.1.1) && decide (PySem.W.kitOne K (.ref (cA T K p.1.1)) (icU T K p.1.2) = some p.2)) &&
  (((List.range T.cls.length).all fun c => kinds.all fun n => decide (PySem.W.kitOne K (.type n) (.ref (cA T K c)) = some false)) &&
  ((T.excL.all fun p => xfB K (cA T K p.1) && (decide (PySem.W.typeIn K (.ref (cA T K p.1)) = some (.type "type")) && (PySem.W.keepIn K (.ref (cA T K p.1)) && (noatB T K (cA T K p.1) && (match p.2 with
    | none => PySem.W.excIn K (cA T K p.1) He.veBase "ValueError.__new__"
    | some f => decide (f < T.flds.length) && (oexcB K (cA T K p.1) && (xs.any fun x => decide (x.c = p.1) && decide (x.f = f)))))))) &&
  ((T.subL.all fun p => decide (PySem.W.exmOne K (.ref (cA T K p.1.1)) (.ref (cA T K p.1.2)) = some p.2)) &&
  ((T.gdsL.all fun p => okB (PySem.W.nsIn K mainGlobals p.1) (.ref (He.ga K p.1)) && p.2.all fun q => valB K (He.ga K p.1) q) &&
  ((T.gloL.all fun p => gloB K p) &&
  ((decide T.flds.Nodup && T.flds.all fun x => decide (x ≠ "")) &&
  (xs.all fun x => okB (PySem.W.findIn K (.ref (cA T K x.c)) "__init__") (.ref (He.fAd K x.fd.at_)) && (decide (PySem.W.typeIn K (.ref (He.fAd K x.fd.at_)) = some (.type "function")) && (initcB K (He.ga K x.base) &&
    okB (PySem.W.nsIn K mainGlobals x.base) (.ref (He.ga K x.base))))))))))))))))))))
end Fk
end
section
set_option maxHeartbeats 1000000
/-! What was looked at says all. -/
namespace Fk
open PySem PySem.Spec PyProof.Rows L2
theorem fnA_of {T : Tbl} {K : PySem.W.Frag} {f : Nat} {a : Addr} (h : fnA T K f = some a) : ∃ fd, T.fs[f]? = some fd ∧ a = He.fAd K fd.at_ := by
  unfold fnA at h
  cases e : T.fs[f]? with
  | none => rw [e] at h; cases h
  | some fd => rw [e] at h; exact ⟨fd, rfl, (Option.some.inj h).symm⟩
theorem fnB {T : Tbl} {K : PySem.W.Frag} {f : Nat} {g : Addr → Bool} (h : (match fnA T K f with
    | some a => g a
    | none => false) = true) : ∃ fd, T.fs[f]? = some fd ∧ g (He.fAd K fd.at_) = true := by
  cases e : fnA T K f with
  | none => rw [e] at h; cases h
  | some a =>
    rw [e] at h
    obtain ⟨fd, h1, rfl⟩ := fnA_of e
    exact ⟨fd, h1, h⟩
theorem veFacts : ∃ B newId initId bmB, ExcBaseFacts B newId initId bmB ∧ bmB = He.veBase ∧ newId = "ValueError.__new__" := ⟨_, _, _, _, F.excBase_ValueError, rfl, rfl⟩
theorem gloB_ok {T : Tbl} {K : PySem.W.Frag} {h : Heap} {mg : Str → Option Value} (X : K.In h) (G : h.Ns mainGlobals mg) {x : Str} {d : D} (c : gloB K (x, d) = true) : ∃ (u : Value) (v : V), mg x = some u ∧ RelV v u ∧ ∀ hid μ H, Dat (mkS T K hid) μ H v d := by
  unfold gloB at c
  split at c
  · rename_i ds e
    dsimp only at e c
    subst e
    obtain ⟨c1, c⟩ := and2 c
    obtain ⟨c2, c3⟩ := and2 c
    refine ⟨_, .ref (He.ga K x), PySem.W.mg_of X G (He.eqO_ok c1), rfl, fun hid μ H => .ro (vs := ds.map dV) (.inr ?_) (dats_dDv c2)⟩
    split at c3
    · rename_i cc its n sl q
      obtain ⟨k1, k2⟩ := and2 c3
      obtain ⟨k2, k3⟩ := and2 k2
      exact ⟨_, its, n, q, congrArg Value.type (of_decide_eq_true k1), rfl, rfl, of_decide_eq_true k2, He.relAll_ok k3⟩
    · cases c3
  · obtain ⟨c1, c2⟩ := and2 c
    split at c2
    · rename_i u q
      exact ⟨u, _, PySem.W.mg_of X G q, He.relB_ok c2, fun hid μ H => dDv_ok c1⟩
    · cases c2
theorem nsIn_miss {K : PySem.W.Frag} {w : World} {a : Addr} {ks : List Str} {es : Array DictEntry} {n : Nat} {z : Str} (t : He.dicW K a = some (He.keysIn w.params ks)) (kd : KDict K w a es n) (hz : z ∉ ks) : PySem.W.nsIn K a z = some none := by
  have e : es.toList.map He.keyOf = He.keysIn w.params ks := by
    unfold He.dicW at t
    rw [kd.at_] at t
    have t2 : (match decide ((("dict" : String)) = "dict") && ((#[] : Array (Option Value)).isEmpty && !(a == sysModules)) with
      | true => some (es.toList.map He.keyOf)
      | false => none) = some (He.keysIn w.params ks) := t
    rw [kd.low] at t2
    exact Option.some.inj t2
  have key : ∀ en ∈ es.toList, ∃ k, k ∈ ks ∧ en.key.isStr k = true := fun en hen => by
    have m : He.keyOf en ∈ He.keysIn w.params ks := e ▸ List.mem_map_of_mem hen
    obtain ⟨k, hk, q⟩ := List.mem_map.mp m
    refine ⟨k, hk, ?_⟩
    unfold He.keyOf at q
    split at q
    · rename_i x t' q2
      have q3 := (Prod.mk.inj (Option.some.inj q)).1
      rw [q2, ← q3]
      simp [Value.isStr]
    · cases q
  have f1 : es.toList.find? (·.key.isStr z) = none := List.find?_eq_none.mpr fun en hen => by
    obtain ⟨k, hk, q⟩ := key en hen
    have ne : z ≠ k := fun z' => by
      rw [z'] at hz
      exact hz hk
    rw [isStr_other ne en q]
    simp
  have f2 : es.toList.any (·.refKey) = false := by
    rw [List.any_eq_false]
    intro en hen
    obtain ⟨k, hk, q⟩ := key en hen
    rw [isStr_notRef en q]
    simp
  unfold PySem.W.nsIn
  rw [kd.at_]
  show (match es.toList.find? (·.key.isStr z) with
      | some e => some (some e.val)
      | none => if es.toList.any (·.refKey) then none else some none) = some none
  rw [f1]
  show (if es.toList.any (·.refKey) then none else some none) = some none
  rw [f2]
  rfl
theorem lookup_none' {α β : Type} [BEq α] [LawfulBEq α] {a : α} : ∀ {l : List (α × β)}, l.lookup a = none → a ∉ l.map (·.1)
  | [], _ => by simp
  | (c, d) :: r, h => by
    have h2 : (match a == c with | true => some d | false => r.lookup a) = none := h
    cases q : (a == c) with
    | true =>
      rw [q] at h2
      cases h2
    | false =>
      rw [q] at h2
      have ne : a ≠ c := fun z => by
        rw [z] at q
        simp at q
      have ih := lookup_none' h2
      rw [List.map_cons, List.mem_cons]
      exact fun z => z.elim ne ih
theorem tokB_ok {T : Tbl} {xs : List Xdef} {K : PySem.W.Frag} {w : World} {h : Heap} {mg : Str → Option Value} (X : K.In h) (G : h.Ns mainGlobals mg) (c : tokB T xs K = true)
    (kp : ∀ (f : Nat) (fd : Fdef), T.fs[f]? = some fd → PySem.W.keepIn K (.ref (He.fAd K fd.at_)) = true)
    (tb : ∀ (x : Str) (kvs : List (Str × D)), (x, kvs) ∈ T.gdsL → He.dicW K (He.ga K x) = some (He.keysIn w.params (kvs.map (·.1)))) : TOk T K mg w := by
  obtain ⟨c1, c⟩ := and2 c
  obtain ⟨c2, c⟩ := and2 c
  obtain ⟨c3, c⟩ := and2 c
  obtain ⟨c4, c⟩ := and2 c
  obtain ⟨c5, c⟩ := and2 c
  obtain ⟨c6, c⟩ := and2 c
  obtain ⟨c7, c⟩ := and2 c
  obtain ⟨c8, c⟩ := and2 c
  obtain ⟨c9, c⟩ := and2 c
  obtain ⟨c10, c⟩ := and2 c
  obtain ⟨c11, c⟩ := and2 c
  obtain ⟨c12, c⟩ := and2 c
  obtain ⟨c13, c⟩ := and2 c
  obtain ⟨c14, c⟩ := and2 c
  obtain ⟨c19, c⟩ := and2 c
  obtain ⟨c15, c16⟩ := and2 c
  obtain ⟨c17, c18⟩ := and2 c15
  refine { sys := ?_, free := ?_, fglo := ?_, cglo := ?_, meth := ?_, init := ?_, len := ?_, eq := ?_, isI := ?_, isX := ?_, kown := ?_, exc := ?_, subX := ?_, glo := ?_, gds := ?_, fnd := of_decide_eq_true c17, fne := fun x hx => of_decide_eq_true (List.all_eq_true.mp c18 x hx) }
  · split at c1
    · rename_i t _ _ _ q
      exact ⟨_, q, congrArg Value.type (of_decide_eq_true c1)⟩
    · cases c1
  · intro x hx
    exact PySem.W.mg_none_of X G (He.eqO_ok (List.all_eq_true.mp c2 x hx))
  · intro f fd x hf hx
    refine ⟨?_, kp f fd hf⟩
    have z := List.all_eq_true.mp c3 fd (List.mem_of_getElem? hf)
    have e : He.fAd K fd.at_ = He.ga K x := by rw [hx] <;> rfl
    rw [e]
    rw [hx] at z
    exact PySem.W.mg_of X G (He.eqO_ok z)
  · intro c x hc
    exact PySem.W.mg_of X G (He.eqO_ok (List.all_eq_true.mp c4 x (List.mem_of_getElem? hc)))
  · intro c m f hm
    obtain ⟨fd, h1, h2⟩ := fnB (List.all_eq_true.mp c5 _ (lookup_mem' (show T.methL.lookup (c, m) = some _ from hm)))
    obtain ⟨k1, h2⟩ := and2 h2
    obtain ⟨k2, h2⟩ := and2 h2
    obtain ⟨k3, h2⟩ := and2 h2
    obtain ⟨k4, k5⟩ := and2 h2
    exact ⟨fd, h1, clsB_ok k1, ⟨He.eqO_ok k2, k3, k4⟩, of_decide_eq_true k5⟩
  · intro c f hm
    obtain ⟨fd, h1, h2⟩ := fnB (List.all_eq_true.mp c6 _ (lookup_mem' (show T.initL.lookup c = some _ from hm)))
    obtain ⟨k1, h2⟩ := and2 h2
    obtain ⟨k2, h2⟩ := and2 h2
    obtain ⟨k3, h2⟩ := and2 h2
    obtain ⟨k4, h2⟩ := and2 h2
    obtain ⟨k5, k6⟩ := and2 h2
    exact ⟨fd, h1, ⟨k1, He.eqO_ok k2, k3, k4⟩, insB_ok k5, noatB_ok k6⟩
  · intro c f hm
    obtain ⟨fd, h1, h2⟩ := fnB (List.all_eq_true.mp c7 _ (lookup_mem' (show T.lenL.lookup c = some _ from hm)))
    obtain ⟨k1, k2⟩ := and2 h2
    exact ⟨fd, h1, He.eqO_ok k1, k2⟩
  · intro c f hm
    obtain ⟨fd, h1, h2⟩ := fnB (List.all_eq_true.mp c8 _ (lookup_mem' (show T.eqL.lookup c = some _ from hm)))
    obtain ⟨k1, h2⟩ := and2 h2
    obtain ⟨k2, h2⟩ := and2 h2
    obtain ⟨k3, h2⟩ := and2 h2
    obtain ⟨k4, h2⟩ := and2 h2
    obtain ⟨k5, k6⟩ := and2 h2
    exact ⟨fd, h1, He.eqO_ok k1, k2, He.eqO_ok k3, insB_ok k4, fun n hn => List.all_eq_true.mp k5 n hn, fun c' f' hi => List.all_eq_true.mp k6 _ (lookup_mem' (show T.initL.lookup c' = some _ from hi))⟩
  · intro c i b hm
    obtain ⟨k1, k2⟩ := and2 (List.all_eq_true.mp c9 _ (lookup_mem' (show T.isIL.lookup (c, i) = some _ from hm)))
    exact ⟨insB_ok k1, of_decide_eq_true k2⟩
  · intro c i b hm
    obtain ⟨k1, k2⟩ := and2 (List.all_eq_true.mp c10 _ (lookup_mem' (show T.isXL.lookup (c, i) = some _ from hm)))
    exact ⟨exccB_ok k1, of_decide_eq_true k2⟩
  · intro c hc n hn
    exact of_decide_eq_true (List.all_eq_true.mp (List.all_eq_true.mp c11 c (List.mem_range.mpr hc)) n hn)
  · intro c o hm
    obtain ⟨k1, h2⟩ := and2 (List.all_eq_true.mp c12 _ (lookup_mem' (show T.excL.lookup c = some _ from hm)))
    obtain ⟨k2, h2⟩ := and2 h2
    obtain ⟨k3, h2⟩ := and2 h2
    obtain ⟨k4, k5⟩ := and2 h2
    refine ⟨xfB_ok k1, of_decide_eq_true k2, k3, noatB_ok k4, fun e => ?_⟩
    subst e
    obtain ⟨B, newId, initId, bmB, F, rfl, rfl⟩ := veFacts
    exact ⟨_, _, _, _, F, k5⟩
  · intro c d b hm
    exact of_decide_eq_true (List.all_eq_true.mp c13 _ (lookup_mem' (show T.subL.lookup (c, d) = some _ from hm)))
  · intro x d hm
    exact gloB_ok X G (List.all_eq_true.mp c19 _ (lookup_mem' (show T.gloL.lookup x = some _ from hm)))
  · intro x kvs hm
    have hm2 := lookup_mem' (show T.gdsL.lookup x = some _ from hm)
    obtain ⟨k1, k2⟩ := and2 (List.all_eq_true.mp c14 _ hm2)
    have t := tb x kvs hm2
    obtain ⟨es, n, kd⟩ := He.dicW_ok t
    refine ⟨He.ga K x, es, n, PySem.W.mg_of X G (He.eqO_ok k1), kd, fun z d hz => ?_, fun z hz => ?_⟩
    · have q := List.all_eq_true.mp k2 _ (lookup_mem' hz)
      obtain ⟨q1, q2⟩ := and2 (show ((dDv d).isSome && (match PySem.W.nsIn K (He.ga K x) z with
        | some (some u) => He.relB (dV d) u
        | _ => false)) = true from q)
      split at q2
      · rename_i u e
        exact ⟨u, dV d, e, He.relB_ok q2, fun hid μ H => dDv_ok q1⟩
      · cases q2
    · exact nsIn_miss t kd (lookup_none' hz)
/-- its arguments land -/
def BdP (fd : Fdef) : Prop := (fd.kw = [] ∧ fd.kcs = [] ∧ ∀ (kV doc pm : Value) (an : Option Addr) (cdv ct : Value) (us : List Value), us.length = fd.ps.length → bindArgs (PySem.W.fnOf fd.name fd.qual (defArgs fd.st) (defBody fd.st) (defScope fd.st) .none kV doc pm an cdv ct) ⟨us, []⟩ = pure (fd.ps.zip us)) ∨
  (fd.kw ≠ [] ∧ (∃ n : Nat, n + (fd.kw.map fun q => (q.1, dV q.2)).length = fd.ps.length ∧ ∀ (D : Addr) (doc pm : Value) (an : Option Addr) (cdv ct : Value) (us ks : List Value), us.length = n → ks.length = (fd.kw.map fun q => (q.1, dV q.2)).length →
    KwChain D (((fd.kw.map fun q => (q.1, dV q.2)).map (·.1)).zip ks) (bindArgs (PySem.W.fnOf fd.name fd.qual (defArgs fd.st) (defBody fd.st) (defScope fd.st) .none (.ref D) doc pm an cdv ct) ⟨us, []⟩) (fd.ps.zip (us ++ ks))) ∧
  ∀ kc ∈ fd.kcs, ∀ (D : Addr) (doc pm : Value) (an : Option Addr) (cdv ct : Value) (us ks : List Value), us.length = kc.1.length → ks.length = (fd.kw.map fun q => (q.1, dV q.2)).length →
    KwChain D (((fd.kw.map fun q => (q.1, dV q.2)).map (·.1)).zip ks) (bindArgs (PySem.W.fnOf fd.name fd.qual (defArgs fd.st) (defBody fd.st) (defScope fd.st) .none (.ref D) doc pm an cdv ct) ⟨[], kc.1.zip us⟩) (fd.ps.zip ((kc.2.map fun i => us.getD i .none) ++ ks)))
/-- a call by names alone: what it binds -/
theorem FunD.kbd {K : PySem.W.Frag} {x qual : Str} {params : Arguments} {body : List Stmt} {scope : Scope} {kws : List (Str × V)} {f : Addr} {fd : FuncData} {ps : List Str} (F : FunD K x qual params body scope [] kws f fd) (hk : kws ≠ []) (cs : List Str) (sel : List Nat)
    (h : ∀ (D : Addr) (doc pm : Value) (an : Option Addr) (cdv ct : Value) (us ks : List Value), us.length = cs.length → ks.length = kws.length →
      KwChain D ((kws.map (·.1)).zip ks) (bindArgs (PySem.W.fnOf x qual params body scope .none (.ref D) doc pm an cdv ct) ⟨[], cs.zip us⟩) (ps.zip ((sel.map fun i => us.getD i .none) ++ ks))) : ∃ dd, Vals (kws.map (·.2)) dd ∧ KBd K fd ps dd cs sel := by
  obtain ⟨oc, od, dV, kV, doc, pm, an, cdv, ct, osl, rfl, lk, hcd, hD, hK⟩ := F.ex
  rcases hD with ⟨_, rfl⟩ | ⟨e, _⟩
  · rcases hK with e | ⟨D, rfl, hq⟩
    · exact absurd e hk
    · obtain ⟨ks, hl, rk, hks⟩ := kwd_vals hq
      exact ⟨ks, rk, fun s us X hlen => BindsTo.of_looks fun M => KwChain.looks X hks (h D doc pm an cdv ct us ks hlen hl)⟩
  · exact absurd rfl e
/-- of a def: what does not hang on the heap -/
structure FdP (T : Tbl) (fd : Fdef) : Prop where
  sc : FnScope fd.N fd.ps (defScope fd.st)
  ck : ckSs T fd.N fd.body (defScope fd.st) (defScope fd.st) true (defBody fd.st) = true
  kc : ((fd.kw.map (·.2)).all fun d => (dDv d).isSome) = true
  bd : BdP fd
structure XdP (T : Tbl) (x : Xdef) : Prop where
  kw : x.fd.kw = []
  sc : FnScope [x.z, x.y] [x.z, x.y] (defScope x.fd.st)
  ck : xiB x.base x.z x.y (fN T x.f) (defScope x.fd.st) (defBody x.fd.st) = true
  bd : ∀ (kV doc pm : Value) (an : Option Addr) (cdv ct : Value) (us : List Value), us.length = 2 → bindArgs (PySem.W.fnOf x.fd.name x.fd.qual (defArgs x.fd.st) (defBody x.fd.st) (defScope x.fd.st) .none kV doc pm an cdv ct) ⟨us, []⟩ = pure ([x.z, x.y].zip us)
def fnL (T : Tbl) (xs : List Xdef) : List He.DefD := T.fs.map Fdef.dd ++ xs.map fun x => x.fd.dd
abbrev AlF : Type := Bool × He.AlD × List (Option (List (Option (Str × Int))))
def obsF (T : Tbl) (xs : List Xdef) (K : PySem.W.Frag) : AlF := (tokB T xs K, He.obsD [] (fnL T xs) K, T.gdsL.map fun p => He.dicW K (He.ga K p.1))
def valF (T : Tbl) (xs : List Xdef) (w : World) : AlF := (true, He.valD (fnL T xs), T.gdsL.map fun p => some (He.keysIn w.params (p.2.map (·.1))))
def asF (n : Nat) (g : Addr → Option Obj) : List Addr := He.asD g n ++ [sysModules, PySem.cStatics]
def obsFG (n : Nat) (T : Tbl) (xs : List Xdef) (g : Addr → Option Obj) : AlF := obsF T xs (He.frG g (asF n g))
def SaysF (T : Tbl) (xs : List Xdef) (w : World) (K : PySem.W.Frag) : Prop := obsF T xs K = valF T xs w
def hookF (n : Nat) (T : Tbl) (xs : List Xdef) : PySem.W.Hook where
  α := AlF
  obs := fun s => obsFG n T xs s.heap.get?
  val := fun w => valF T xs w
  says := fun w h => ∃ K : PySem.W.Frag, K.In h ∧ SaysF T xs w K
  of := fun _ _ e => ⟨_, He.frG_in, e⟩
  keeps := fun _ _ _ ⟨K, hK, c⟩ k => ⟨K, PySem.W.Frag.In.keeps hK k, c⟩
theorem obsFG_eq {n : Nat} {T : Tbl} {xs : List Xdef} {g : Addr → Option Obj} {s : Shared} (h : ∀ a, g a = s.heap.get? a) : obsFG n T xs g = (hookF n T xs).obs s := by
  have e : g = s.heap.get? := funext h
  rw [e] <;> rfl
section
variable {T : Tbl} {xs : List Xdef} {w : World} {K : PySem.W.Frag} {h : Heap} {mg : Str → Option Value}
theorem SaysF.tok (c : SaysF T xs w K) : tokB T xs K = true := congrArg (fun z : AlF => z.1) c
theorem SaysF.d (c : SaysF T xs w K) : He.SaysD [] (fnL T xs) K := congrArg (fun z : AlF => z.2.1) c
theorem SaysF.tab (c : SaysF T xs w K) (x : Str) (kvs : List (Str × D)) (hx : (x, kvs) ∈ T.gdsL) : He.dicW K (He.ga K x) = some (He.keysIn w.params (kvs.map (·.1))) := by
  have e : (T.gdsL.map fun p => He.dicW K (He.ga K p.1)) = T.gdsL.map fun p => some (He.keysIn w.params (p.2.map (·.1))) := congrArg (fun z : AlF => z.2.2) c
  obtain ⟨i, hi⟩ := List.mem_iff_getElem?.mp hx
  have e2 : (T.gdsL.map fun p => He.dicW K (He.ga K p.1))[i]? = (T.gdsL.map fun p => some (He.keysIn w.params (p.2.map (·.1))))[i]? := by rw [e]
  rw [List.getElem?_map, List.getElem?_map, hi] at e2
  exact Option.some.inj e2
theorem SaysF.fn (c : SaysF T xs w K) {f : Nat} {fd : Fdef} (hf : T.fs[f]? = some fd) : ∃ fdt, FunD K fd.name fd.qual (defArgs fd.st) (defBody fd.st) (defScope fd.st) [] (fd.kw.map fun q => (q.1, dV q.2)) (He.fAd K fd.at_) fdt := by
  have e : fd.dd.kws K = fd.kw.map fun q => (q.1, dV q.2) := by
    show (fd.kw.map fun q => (q.1, dvD q.2)).map (fun q => (q.1, q.2.v K)) = _
    rw [List.map_map]
    exact List.map_congr_left fun q _ => by show (q.1, (dvD q.2).v K) = _; rw [dvD_v]
  rw [← e]
  refine c.d.def_ f (d := fd.dd) ?_
  unfold fnL
  have hl : f < T.fs.length := (List.getElem?_eq_some_iff.mp hf).1
  rw [List.getElem?_append_left (by simpa using hl), List.getElem?_map, hf]
  rfl
theorem SaysF.xfn (c : SaysF T xs w K) (hk : ∀ x ∈ xs, x.fd.kw = []) {x : Xdef} (hx : x ∈ xs) : ∃ fdt, FunD K x.fd.name x.fd.qual (defArgs x.fd.st) (defBody x.fd.st) (defScope x.fd.st) [] [] (He.fAd K x.fd.at_) fdt := by
  obtain ⟨i, hi⟩ := List.mem_iff_getElem?.mp hx
  have e : x.fd.dd.kws K = [] := by
    show (x.fd.kw.map fun q => (q.1, dvD q.2)).map (fun q => (q.1, q.2.v K)) = _
    rw [hk x hx]
    rfl
  rw [← e]
  refine c.d.def_ (T.fs.length + i) (d := x.fd.dd) ?_
  unfold fnL
  rw [List.getElem?_append_right (by simp), List.length_map, Nat.add_sub_cancel_left, List.getElem?_map, hi]
  rfl
theorem SaysF.tk (c : SaysF T xs w K) (X : K.In h) (G : h.Ns mainGlobals mg) : TOk T K mg w := tokB_ok X G c.tok (fun f fd hf => by
  obtain ⟨fdt, F⟩ := c.fn hf
  exact F.kp) c.tab
theorem SaysF.xsOk (c : SaysF T xs w K) (X : K.In h) (G : h.Ns mainGlobals mg) (hx : ∀ x ∈ xs, XdP T x) {P : Program} {base : Heap} : XsOk P w K mg base T := by
  intro cc f hm
  have c0 := c.tok
  obtain ⟨c1, c0⟩ := and2 c0
  obtain ⟨c2, c0⟩ := and2 c0
  obtain ⟨c3, c0⟩ := and2 c0
  obtain ⟨c4, c0⟩ := and2 c0
  obtain ⟨c5, c0⟩ := and2 c0
  obtain ⟨c6, c0⟩ := and2 c0
  obtain ⟨c7, c0⟩ := and2 c0
  obtain ⟨c8, c0⟩ := and2 c0
  obtain ⟨c9, c0⟩ := and2 c0
  obtain ⟨c10, c0⟩ := and2 c0
  obtain ⟨c11, c0⟩ := and2 c0
  obtain ⟨c12, c0⟩ := and2 c0
  obtain ⟨c13, c0⟩ := and2 c0
  obtain ⟨c14, c0⟩ := and2 c0
  obtain ⟨c19, c0⟩ := and2 c0
  obtain ⟨c15, c16⟩ := and2 c0
  obtain ⟨k1, h2⟩ := and2 (List.all_eq_true.mp c12 _ (lookup_mem' (show T.excL.lookup cc = some _ from hm)))
  obtain ⟨k2, h2⟩ := and2 h2
  obtain ⟨k3, h2⟩ := and2 h2
  obtain ⟨k4, k5⟩ := and2 h2
  obtain ⟨j5, j6⟩ := and2 (show (decide (f < T.flds.length) && (oexcB K (cA T K cc) && (xs.any fun x => decide (x.c = cc) && decide (x.f = f)))) = true from k5)
  obtain ⟨j8, j7⟩ := and2 j6
  obtain ⟨x, hxm, k8⟩ := List.any_eq_true.mp j7
  obtain ⟨k8, k9⟩ := and2 k8
  have e1 : x.c = cc := of_decide_eq_true k8
  have e2 : x.f = f := of_decide_eq_true k9
  subst e1 e2
  obtain ⟨m1, m2⟩ := and2 (List.all_eq_true.mp c16 x hxm)
  obtain ⟨m2, m3⟩ := and2 m2
  obtain ⟨m3, m4⟩ := and2 m3
  obtain ⟨fdt, F⟩ := c.xfn (fun x h => (hx x h).kw) hxm
  have p := hx x hxm
  exact ⟨of_decide_eq_true j5, oexcB_ok j8, He.fAd K x.fd.at_, fdt, [x.z, x.y], He.eqO_ok m1, of_decide_eq_true m2,
    xinit_ok F p.sc p.ck (PySem.W.mg_of X G (He.eqO_ok m4)) (initcB_ok m3) (oexcB_ok j8) (noatB_ok k4 _ (of_decide_eq_true j5)), F.bindsN p.bd⟩
theorem SaysF.fds (c : SaysF T xs w K) (hf : ∀ fd ∈ T.fs, FdP T fd) (f : Nat) (fd : Fdef) (e : T.fs[f]? = some fd) : FdOk T K fd := by
  obtain ⟨fdt, F⟩ := c.fn e
  have p := hf fd (List.mem_of_getElem? e)
  refine ⟨?_, p.kc, p.sc, p.ck⟩
  rcases p.bd with ⟨k, kk, b⟩ | ⟨k, ⟨n, hn, b⟩, bk⟩
  · refine ⟨fdt, [], F, ?_, F.bindsN b, fun kc hkc => ?_⟩
    · rw [k]
      exact .nil
    · rw [kk] at hkc
      cases hkc
  · have k2 : (fd.kw.map fun q => (q.1, dV q.2)) ≠ [] := fun z => k (List.map_eq_nil_iff.mp z)
    obtain ⟨ds, h1, h2⟩ := F.binds0 n k2 hn b
    refine ⟨fdt, ds, F, ?_, h2, fun kc hkc => ?_⟩
    · rw [List.map_map] at h1 ⊢
      exact h1
    · obtain ⟨ds', h3, h4⟩ := FunD.kbd F k2 kc.1 kc.2 (bk kc hkc)
      refine ⟨ds', ?_, h4⟩
      rw [List.map_map] at h3 ⊢
      exact h3
end
/-- a law over the table: what is left is plain -/
theorem walk_F {l : PySem.W.OpenLaw} {n N m : Nat} {q : Program} {loose : List Str} {XP : (Str → Option Value) → Heap → Prop} {d : DefRec} {x : Str} {T : Tbl} {xs : List Xdef} {L : Nat} {fl : Fdef}
    (hn : l.most = some n) (hn2 : n ≤ sizeLine) (hdf : d.params.defaults = []) (hr : Room (2 * N + 4) callerA)
    (hL : T.fs[L]? = some fl) (hat : fl.at_ = (d.name, none)) (hps : fl.ps = [x]) (hf : ∀ fd ∈ T.fs, FdP T fd) (hx : ∀ x ∈ xs, XdP T x)
    (plain : ∀ ns : List Int, ns.length ≤ n → (∀ k ∈ ns, Builtin.Int.intBits k ≤ 1048576) → callN T N L [.ro (ns.map D.int)] noM (fun r _ => r = .bl true) noX) :
    PySem.W.WalkO q loose XP (hookF m T xs).says l.row.toRowW d [] (fun f vs => PySem.call f vs) := by
  refine walk_law (k := 2 * N + 4) hn hn2 hdf hr fun w mg fa h Y G hmg => ?_
  obtain ⟨K, KX, c⟩ := Y
  have tk : TOk T K mg w := c.tk KX G
  have e := hmg.symm.trans (tk.fglo L fl d.name hL hat).1
  cases e
  exact ⟨K, T, _, KX, plain, fun base _ _ => callN_ok (P := l.prog) (base := base) tk (c.fds hf) (c.xsOk KX G hx) N L fl hL |>.1⟩
end Fk
end
section
set_option maxHeartbeats 2000000
/-! The part that makes nothing new and raises nothing, as a function. -/
namespace Fk
open PySem PySem.Spec PyProof.Rows L2
instance (i j : Int) : Decidable (CMul i j) := by unfold CMul; infer_instance
instance (i j : Int) : Decidable (CDivX i j) := by unfold CDivX; infer_instance
instance (i j : Int) : Decidable (CPow i j) := by unfold CPow; infer_instance
def evEq (μ : Mem) (x y : D) : Option Bool := match (deref μ x).py, (deref μ y).py with
  | some d, some e => if (SeqAt.shaped d && SeqAt.shaped e) = true then some (PyData.eqv d e) else none
  | _, _ => none
theorem evEq_ok {μ : Mem} {x y : D} {b : Bool} {k : Bool → Prop} (h : evEq μ x y = some b) (q : k b) : eqS μ x y k := by
  unfold evEq at h
  split at h
  · rename_i d e h1 h2
    split at h
    · rename_i h3
      cases h
      obtain ⟨h4, h5⟩ := Bool.and_eq_true_iff.mp h3
      exact ⟨d, e, derefT_py h1, derefT_py h2, h4, h5, q⟩
    · cases h
  · cases h
def evAddL (m : Bool) (x y : D) (μ : Mem) : Option D := match deref μ x, deref μ y with
  | .list xs, .list ys => if m = false ∧ xs.length + ys.length ≤ sizeLine then some (.list (xs ++ ys)) else none
  | .tup xs, .tup ys => if xs.isEmpty = false ∧ xs.length + ys.length ≤ sizeLine then some (.tup (xs ++ ys)) else none
  | _, _ => none
def evBin (m : Bool) (op : Operator) (x y : D) (μ : Mem) : Option D := match op, x, y with
  | .Add, .int i, .int j => some (.int (i + j))
  | .Sub, .int i, .int j => some (.int (i - j))
  | .Mult, .int i, .int j => if CMul i j then some (.int (i * j)) else none
  | .FloorDiv, .int i, .int j => if CDivX i j then some (.int (i / j)) else none
  | .Mod, .int i, .int j => if 0 < j then some (.int (i % j)) else none
  | .Pow, .int i, .int j => if CPow i j then some (.int (i ^ j.toNat)) else none
  | .Add, .str s, .str t => if s.length + t.length ≤ sizeLine then some (.str (s ++ t)) else none
  | .Add, x, y => evAddL m x y μ
  | _, _, _ => none
theorem ne_of_isE {α : Type} {xs : List α} (h : xs.isEmpty = false) : xs ≠ [] := fun z => by rw [z] at h; cases h
theorem evAddL_ok {m : Bool} {x y d : D} {μ : Mem} {Φ : AQ} (h : evAddL m x y μ = some d) (q : Φ d μ) : (match deref μ x, deref μ y with
    | .list xs, .list ys => xs.length + ys.length ≤ sizeLine ∧ newL m (xs ++ ys) μ Φ
    | .tup xs, .tup ys => xs ≠ [] ∧ xs.length + ys.length ≤ sizeLine ∧ Φ (.tup (xs ++ ys)) μ
    | _, _ => False) := by
  unfold evAddL at h
  split at h
  · rename_i xs ys e1 e2
    split at h
    · rename_i h3
      cases h
      obtain ⟨h3, h4⟩ := h3
      subst h3
      exact ⟨h4, q⟩
    · cases h
  · rename_i xs ys e1 e2
    split at h
    · rename_i h3
      cases h
      obtain ⟨h3, h5⟩ := h3
      exact ⟨ne_of_isE h3, h5, q⟩
    · cases h
  · cases h
theorem if_some {p : Prop} [Decidable p] {a d : D} (h : (if p then some a else none) = some d) : p ∧ a = d := by
  split at h
  · cases h; exact ⟨‹_›, rfl⟩
  · cases h
theorem evBin_ok {m : Bool} {op : Operator} {x y d : D} {μ : Mem} {Φ : AQ} (h : evBin m op x y μ = some d) (q : Φ d μ) : binS m op x y μ Φ := by
  cases op <;> cases x <;> cases y <;> first
    | (cases (show (none : Option D) = some d from h); done)
    | (cases (show some _ = some d from h); exact q)
    | (obtain ⟨h1, h2⟩ := if_some (show (if _ then some _ else none) = some d from h); subst h2; exact ⟨h1, q⟩)
    | exact evAddL_ok (show evAddL m _ _ μ = some d from h) q
    | (have h' : evAddL m (.tup _) (.tup _) μ = some d := h
       exact evAddL_ok h' q)
    | (have h' : evAddL m (.list _) (.list _) μ = some d := h
       exact evAddL_ok h' q)
def evIn (g : Bool → Bool) (x y : D) (μ : Mem) : Option D := match dicOf μ y, keyD x with
  | some kvs, some k => some (.bl (g (kLook kvs k).isSome))
  | _, _ => none
def evCmpS (op : CmpOp) (x y : D) (μ : Mem) : Option D := match op, x, y with
  | .Lt, .int i, .int j => some (.bl (decide (i < j)))
  | .LtE, .int i, .int j => some (.bl (decide (i ≤ j)))
  | .Gt, .int i, .int j => some (.bl (decide (j < i)))
  | .GtE, .int i, .int j => some (.bl (decide (j ≤ i)))
  | .Eq, .int i, .int j => some (.bl (decide (i = j)))
  | .NotEq, .int i, .int j => some (.bl (!decide (i = j)))
  | .Eq, .str i, .str j => some (.bl (decide (i = j)))
  | .NotEq, .str i, .str j => some (.bl (!decide (i = j)))
  | .Is, x, .non => some (.bl (isNon x))
  | .IsNot, x, .non => some (.bl (!isNon x))
  | .Is, .bl a, .bl b => some (.bl (decide (a = b)))
  | .IsNot, .bl a, .bl b => some (.bl (!decide (a = b)))
  | .In, x, y => evIn (fun b => b) x y μ
  | .NotIn, x, y => evIn (fun b => !b) x y μ
  | .Eq, x, y => (evEq μ x y).map .bl
  | .NotEq, x, y => (evEq μ x y).map fun b => .bl (!b)
  | _, _, _ => none
theorem evIn_ok {x y d : D} {μ : Mem} {Φ : AQ} {g : Bool → Bool} (h : evIn g x y μ = some d) (q : Φ d μ) : (match dicOf μ y, keyD x with
    | some kvs, some k => Φ (.bl (g (kLook kvs k).isSome)) μ
    | _, _ => inL x y μ fun b => Φ (.bl (g b)) μ) := by
  unfold evIn at h
  split at h
  · cases h; exact q
  · cases h
theorem evEqE_ok {x y d : D} {μ : Mem} {Φ : AQ} {g : Bool → D} (h : (evEq μ x y).map g = some d) (q : Φ d μ) : eqS μ x y fun b => Φ (g b) μ := by
  cases e : evEq μ x y with
  | none => rw [e] at h; cases h
  | some b =>
    rw [e] at h
    cases h
    exact evEq_ok e q
theorem evCmpS_ok {op : CmpOp} {x y d : D} {μ : Mem} {Φ : AQ} (h : evCmpS op x y μ = some d) (q : Φ d μ) : cmpS op x y μ Φ := by
  cases op
  case In => cases x <;> exact evIn_ok (g := fun b => b) (show evIn _ _ _ _ = some d from h) q
  case NotIn => cases x <;> exact evIn_ok (g := fun b => !b) (show evIn _ _ _ _ = some d from h) q
  all_goals (cases x <;> cases y <;> first
    | (cases (show (none : Option D) = some d from h); done)
    | (cases (show some _ = some d from h); exact q)
    | exact evEqE_ok (g := .bl) (show (evEq _ _ _).map _ = some d from h) q
    | exact evEqE_ok (g := fun b => .bl (!b)) (show (evEq _ _ _).map _ = some d from h) q)
/-- a comparison: no own == -/
def evCmp (op : CmpOp) (x y : D) (μ : Mem) : Option D := match x with
  | .ref a => (match μ a with
    | some (.ins _ _) => none
    | _ => evCmpS op x y μ)
  | _ => evCmpS op x y μ
theorem evCmp_S {op : CmpOp} {x y d : D} {μ : Mem} (h : evCmp op x y μ = some d) : evCmpS op x y μ = some d := by
  unfold evCmp at h
  split at h
  · split at h
    · cases h
    · exact h
  · exact h
theorem evCmp_ok {T : Tbl} {call : ACall} {op : CmpOp} {x y d : D} {μ : Mem} {Φ : AQ} {Ψ : AX} (h : evCmp op x y μ = some d) (q : Φ d μ) : cmpC T call op x y μ Φ Ψ := by
  have z := evCmpS_ok (evCmp_S h) q
  cases x with
  | ref a =>
    have n : ∀ c fs, μ a ≠ some (.ins c fs) := fun c fs e => by
      have h' : (match μ a with
        | some (.ins _ _) => none
        | _ => evCmpS op (.ref a) y μ) = some d := h
      rw [e] at h'
      cases h'
    cases op <;> first
      | exact z
      | (unfold cmpC
         dsimp only
         split
         · rename_i c fs e
           exact (n c fs e).elim
         · exact z)
  | _ => cases op <;> exact z
def evSub (x i : D) (μ : Mem) : Option D := match seqOf μ x, i with
  | some ds, .int j => atI ds j
  | _, _ => match dicOf μ x, keyD i with
    | some kvs, some k => kLook kvs k
    | _, _ => none
theorem evSub_ok {x i d : D} {μ : Mem} {Φ : AQ} (h : evSub x i μ = some d) (q : Φ d μ) : subS x i μ Φ := by
  unfold evSub at h
  unfold subS
  generalize seqOf μ x = sx at h ⊢
  generalize dicOf μ x = dx at h ⊢
  generalize keyD i = ki at h ⊢
  cases sx <;> cases i <;> first
    | (dsimp only at h ⊢; rw [h]; exact q)
    | (cases dx <;> cases ki <;> first
        | (cases h; done)
        | (dsimp only at h ⊢; rw [h]; exact q))
end Fk
end
section
set_option maxHeartbeats 2000000
namespace Fk
open PySem PySem.Spec PyProof.Rows L2
def evBf (f : BF) (xs : List D) (μ : Mem) : Option D := match f, xs with
  | .len, [.str s] => if s.length ≤ sizeLine then some (.int s.length) else none
  | .len, [x] => (match seqOf μ x with
    | some ds => some (.int ds.length)
    | none => none)
  | .min2, [.int i, .int j] => some (.int (if j < i then j else i))
  | .max2, [.int i, .int j] => some (.int (if j > i then j else i))
  | .abs, [.int i] => some (.int (if i < 0 then -i else i))
  | .divmod, [.int i, .int j] => if CDivX i j then some (.tup [.int (i / j), .int (i % j)]) else none
  | .int1, [.int i] => some (.int i)
  | .int1, [.bl b] => some (.int (if b then 1 else 0))
  | .str1, [.int i] => if i.natAbs.log2 < 1920 then some (.str (toString i)) else none
  | .repr, [x] => (match (deref μ x).py with
    | some d => if d.showable = true ∧ d.depth ≤ 60 ∧ d.shown.length ≤ sizeLine then some (.str d.shown) else none
    | none => none)
  | .all, [x] => (match (lstOf μ x).bind allBl with
    | some bs => some (.bl (bs.all id))
    | none => none)
  | .any, [x] => (match (lstOf μ x).bind allBl with
    | some bs => some (.bl (bs.any id))
    | none => none)
  | .sum, [x] => (match (lstOf μ x).bind allInt with
    | some ns => some (.int ns.sum)
    | none => none)
  | .list false, [x] => (match seqOf μ x with
    | some ds => some (.list ds)
    | none => none)
  | .tuple, [.tup ds] => some (.tup ds)
  | .tuple, [x] => (match lstOf μ x with
    | some ds => some (.tup ds)
    | none => none)
  | _, _ => none
theorem evBf_ok {f : BF} {xs : List D} {d : D} {μ : Mem} {Φ : AQ} (h : evBf f xs μ = some d) (q : Φ d μ) : bfS f xs μ Φ := by
  unfold evBf at h
  split at h
  · obtain ⟨h1, rfl⟩ := if_some h
    exact ⟨h1, q⟩
  · rename_i x n
    split at h
    · rename_i ds e
      cases h
      cases x <;> first
        | exact (n _ rfl).elim
        | (unfold bfS; dsimp only; rw [e]; exact q)
    · cases h
  · cases h; exact q
  · cases h; exact q
  · cases h; exact q
  · obtain ⟨h1, rfl⟩ := if_some h
    exact ⟨h1, q⟩
  · cases h; exact q
  · cases h; exact q
  · obtain ⟨h1, rfl⟩ := if_some h
    exact ⟨h1, q⟩
  · split at h
    · rename_i d' e
      obtain ⟨⟨h1, h2, h3⟩, rfl⟩ := if_some h
      exact ⟨d', derefT_py e, h1, h2, h3, q⟩
    · cases h
  · split at h
    · rename_i e
      cases h
      unfold bfS; dsimp only; rw [e]; exact q
    · cases h
  · split at h
    · rename_i e
      cases h
      unfold bfS; dsimp only; rw [e]; exact q
    · cases h
  · split at h
    · rename_i e
      cases h
      unfold bfS; dsimp only; rw [e]; exact q
    · cases h
  · split at h
    · rename_i e
      cases h
      unfold bfS; dsimp only; rw [e]; exact q
    · cases h
  · cases h; exact q
  · rename_i x n
    split at h
    · rename_i e
      cases h
      cases x <;> first
        | exact (n _ rfl).elim
        | (unfold bfS; dsimp only; rw [e]; exact q)
    · cases h
  · cases h
/-! a pure target -/
mutual
def evTg : CT → D → Env → Option Env
  | .nm i, v, ρ => some (ρ.set i (some v))
  | .tup ts, v, ρ => (match v with
    | .tup ds => evTgs ts ds ρ
    | _ => none)
  | .star i j, v, ρ => (match v with
    | .tup (d :: ds) => some ((ρ.set i (some d)).set j (some (.list ds)))
    | _ => none)
  | _, _, _ => none
def evTgs : CTs → List D → Env → Option Env
  | .nil, ds, ρ => (match ds with
    | [] => some ρ
    | _ :: _ => none)
  | .cons t ts, ds, ρ => (match ds with
    | [] => none
    | d :: r => (match evTg t d ρ with
      | some ρ1 => evTgs ts r ρ1
      | none => none))
end
theorem evTgs_len : ∀ {ts : CTs} {ds : List D} {ρ ρ' : Env}, evTgs ts ds ρ = some ρ' → ds.length = ts.len
  | .nil, [], _, _, _ => rfl
  | .nil, _ :: _, _, _, h => by cases h
  | .cons t ts, [], _, _, h => by cases h
  | .cons t ts, d :: r, ρ, ρ', h => by
    have h2 : (match evTg t d ρ with
      | some ρ1 => evTgs ts r ρ1
      | none => none) = some ρ' := h
    split at h2
    · exact congrArg (· + 1) (evTgs_len h2)
    · cases h2
section
variable {T : Tbl} {call : ACall}
mutual
theorem evTg_ok : ∀ {t : CT} {v : D} {ρ ρ' : Env} {μ : Mem} {N : Env → Mem → Prop}, evTg t v ρ = some ρ' → N ρ' μ → wTg T call t v ρ μ N
  | .nm i, v, ρ, ρ', μ, N, h, q => by cases h; exact q
  | .tup ts, v, ρ, ρ', μ, N, h, q => by
    cases v <;> first
      | (cases (show none = some ρ' from h); done)
      | (exact ⟨evTgs_len (show evTgs ts _ ρ = some ρ' from h), evTgs_ok (show evTgs ts _ ρ = some ρ' from h) q⟩)
  | .star i j, v, ρ, ρ', μ, N, h, q => by
    unfold evTg at h
    split at h
    · cases h; exact q
    · cases h
  | .sub _ _, _, _, _, _, _, h, _ => by cases h
  | .att _ _, _, _, _, _, _, h, _ => by cases h
theorem evTgs_ok : ∀ {ts : CTs} {ds : List D} {ρ ρ' : Env} {μ : Mem} {N : Env → Mem → Prop}, evTgs ts ds ρ = some ρ' → N ρ' μ → wTgs T call ts ds ρ μ N
  | .nil, [], _, _, _, _, h, q => by cases h; exact q
  | .nil, _ :: _, _, _, _, _, h, _ => by cases h
  | .cons t ts, [], _, _, _, _, h, _ => by cases h
  | .cons t ts, d :: r, ρ, ρ', μ, N, h, q => by
    have h2 : (match evTg t d ρ with
      | some ρ1 => evTgs ts r ρ1
      | none => none) = some ρ' := h
    split at h2
    · rename_i ρ1 e
      exact evTg_ok (N := fun ρ1 μ1 => wTgs T call ts r ρ1 μ1 N) e (evTgs_ok h2 q)
    · cases h2
end
end
end Fk
end
section
set_option maxHeartbeats 2000000
namespace Fk
open PySem PySem.Spec PyProof.Rows L2
def evComp (tg : D → Env → Option Env) (elt : Env → Option D) (tst : Env → Option Bool) : List D → Env → Option (List D)
  | [], _ => some []
  | x :: xs, ρ => match tg x ρ with
    | some ρ1 => (match tst ρ1 with
      | some true => (match elt ρ1, evComp tg elt tst xs ρ with
        | some d, some ds => some (d :: ds)
        | _, _ => none)
      | some false => evComp tg elt tst xs ρ
      | none => none)
    | none => none
section
variable (T : Tbl) (cl : Nat → List D → Mem → Option D)
mutual
def evE : CE → Env → Mem → Option D
  | .var i, ρ, _ => getSlot ρ i
  | .con d, _, _ => some d
  | .glo x, _, _ => T.glo x
  | .bin m op a b, ρ, μ => (match evE a ρ μ, evE b ρ μ with
    | some x, some y => evBin m op x y μ
    | _, _ => none)
  | .neg a, ρ, μ => (match evE a ρ μ with
    | some (.int i) => some (.int (-i))
    | _ => none)
  | .cmp op a b, ρ, μ => (match evE a ρ μ, evE b ρ μ with
    | some x, some y => evCmp op x y μ
    | _, _ => none)
  | .chain o1 o2 a b c, ρ, μ => (match evE a ρ μ, evE b ρ μ with
    | some x, some y => (match evCmpS o1 x y μ with
      | some (.bl true) => (match evE c ρ μ with
        | some z => evCmpS o2 y z μ
        | none => none)
      | some (.bl false) => some (.bl false)
      | _ => none)
    | _, _ => none)
  | .bop o es, ρ, μ => evB o es ρ μ
  | .not a, ρ, μ => (match evE a ρ μ with
    | some (.bl b) => some (.bl (!b))
    | _ => none)
  | .ite t a b, ρ, μ => (match evE t ρ μ with
    | some (.bl true) => evE a ρ μ
    | some (.bl false) => evE b ρ μ
    | _ => none)
  | .tup es, ρ, μ => (match evEs es ρ μ with
    | some ds => if ds.length ≤ 1000 then some (.tup ds) else none
    | none => none)
  | .lst m es, ρ, μ => (match evEs es ρ μ with
    | some ds => if m = false ∧ ds.length ≤ 1000 then some (.list ds) else none
    | none => none)
  | .dct m ks vs, ρ, μ => (match evEs vs ρ μ with
    | some ds => if m = false ∧ ds.length = ks.length then some (.dict ((ks.zip ds).map (·.1)) ((ks.zip ds).map (·.2))) else none
    | none => none)
  | .sub a i, ρ, μ => (match evE a ρ μ, evE i ρ μ with
    | some x, some y => evSub x y μ
    | _, _ => none)
  | .slc a lo hi, ρ, μ => (match evE a ρ μ, evO lo ρ μ, evO hi ρ μ with
    | some x, some l, some h => (match deref μ x with
      | .list ds => some (.list ((ds.drop (HT.sIx ds.length 0 l)).take (HT.sIx ds.length ds.length h - HT.sIx ds.length 0 l)))
      | .tup ds => if ((ds.drop (HT.sIx ds.length 0 l)).take (HT.sIx ds.length ds.length h - HT.sIx ds.length 0 l)).length = ds.length then none
        else some (.tup ((ds.drop (HT.sIx ds.length 0 l)).take (HT.sIx ds.length ds.length h - HT.sIx ds.length 0 l)))
      | _ => none)
    | _, _, _ => none)
  | .blt f es, ρ, μ => (match evEs es ρ μ with
    | some ds => evBf f ds μ
    | none => none)
  | .isi a _ ts, ρ, μ => (match evE a ρ μ with
    | some x => (match isiA T μ x ts with
      | some b => some (.bl b)
      | none => none)
    | none => none)
  | .call f es, ρ, μ => (match evEs es ρ μ with
    | some ds => cl f ds μ
    | none => none)
  | .comp m elt tg own it cs, ρ, μ => (match evI it ρ μ with
    | some items => if m = false ∧ items.length ≤ 1000000 then (match evComp (evTg tg) (fun ρ1 => evE elt ρ1 μ) (fun ρ1 => evTs cs ρ1 μ) items (wipeE ρ (own.map (·.2))) with
      | some ds => some (.list ds)
      | none => none) else none
    | none => none)
  | .gdget x i, ρ, μ => (match T.gds x, evE i ρ μ with
    | some kvs, some (.str z) => kvs.lookup z
    | _, _ => none)
  | .gdin neg x i, ρ, μ => (match T.gds x, evE i ρ μ with
    | some kvs, some (.str z) => some (.bl (if neg = true then !(kvs.lookup z).isSome else (kvs.lookup z).isSome))
    | _, _ => none)
  | _, _, _ => none
def evEs : CEs → Env → Mem → Option (List D)
  | .nil, _, _ => some []
  | .cons e es, ρ, μ => (match evE e ρ μ, evEs es ρ μ with
    | some d, some ds => some (d :: ds)
    | _, _ => none)
def evB : BoolOp → CEs → Env → Mem → Option D
  | _, .nil, _, _ => none
  | o, .cons e es, ρ, μ => (match es with
    | .nil => evE e ρ μ
    | .cons _ _ => (match evE e ρ μ with
      | some (.bl b) => (match o with
        | .And => if b = true then evB o es ρ μ else some (.bl false)
        | .Or => if b = true then some (.bl true) else evB o es ρ μ)
      | _ => none))
def evTs : CEs → Env → Mem → Option Bool
  | .nil, _, _ => some true
  | .cons e es, ρ, μ => (match es with
    | .nil => (match evE e ρ μ with
      | some (.bl b) => some b
      | _ => none)
    | .cons _ _ => none)
def evO : CO → Env → Mem → Option (Option Int)
  | .no, _, _ => some none
  | .some e, ρ, μ => (match evE e ρ μ with
    | some (.int i) => some (some i)
    | _ => none)
def evI : CI → Env → Mem → Option (List D)
  | .seq e, ρ, μ => (match evE e ρ μ with
    | some (.list ds) => some ds
    | some (.ro ds) => some ds
    | some (.tup ds) => some ds
    | some (.str s) => some (s.cps.toList.map fun c => D.str ⟨#[c]⟩)
    | some (.ref a) => (match μ a with
      | some (.lst ds) => some ds
      | _ => none)
    | _ => none)
  | .range1 e, ρ, μ => (match evE e ρ μ with
    | some (.int n) => if -(2 ^ 62) ≤ n ∧ n < 2 ^ 62 then some ((List.range n.toNat).map fun (i : Nat) => D.int (i : Int)) else none
    | _ => none)
  | .range2 a b, ρ, μ => (match evE a ρ μ, evE b ρ μ with
    | some (.int n), some (.int m) => if -(2 ^ 62) ≤ n ∧ n < 2 ^ 62 ∧ -(2 ^ 62) ≤ m ∧ m < 2 ^ 62 then some ((List.range (m - n).toNat).map fun (i : Nat) => D.int (n + (i : Int))) else none
    | _, _ => none)
  | .enum e, ρ, μ => (match evE e ρ μ with
    | some (.list ds) => some (ds.zipIdx.map fun p => .tup [.int (p.2 : Int), p.1])
    | some (.ro ds) => some (ds.zipIdx.map fun p => .tup [.int (p.2 : Int), p.1])
    | some (.ref a) => (match μ a with
      | some (.lst ds) => some (ds.zipIdx.map fun p => .tup [.int (p.2 : Int), p.1])
      | _ => none)
    | _ => none)
  | .zip a b, ρ, μ => (match evE a ρ μ, evE b ρ μ with
    | some x, some y => (match zSrc x, zSrc y with
      | some xs, some ys => some ((xs.zip ys).map fun p => .tup [p.1, p.2])
      | _, _ => none)
    | _, _ => none)
end
end
theorem compL_ok {tg : D → Env → Option Env} {elt : Env → Option D} {tst : Env → Option Bool} {wtg : ATg} {welt : AE} {wtst : AT} {G : Mem → Prop} {μ : Mem} (hg : G μ)
    (h1 : ∀ x ρ ρ1 (N : Env → Mem → Prop), tg x ρ = some ρ1 → N ρ1 μ → wtg x ρ μ N) (h2 : ∀ ρ d (Φ : AQ) Ψ, elt ρ = some d → Φ d μ → welt ρ μ Φ Ψ) (h3 : ∀ ρ b (Φ : Bool → Mem → Prop) Ψ, tst ρ = some b → Φ b μ → wtst ρ μ Φ Ψ) :
    ∀ (items acc ds : List D) (ρ : Env) (Κ : List D → Mem → Prop), evComp tg elt tst items ρ = some ds → acc.length + items.length ≤ 1000000 → Κ (acc ++ ds) μ → compL wtg welt wtst G items acc ρ μ Κ
  | [], acc, ds, ρ, Κ, h, _, q => by
    cases h
    rw [List.append_nil] at q
    exact ⟨hg, q⟩
  | x :: xs, acc, ds, ρ, Κ, h, hl, q => by
    unfold evComp at h
    rw [List.length_cons] at hl
    split at h
    · rename_i ρ1 e1
      split at h
      · rename_i e2
        split at h
        · rename_i d ds' e3 e4
          cases h
          refine ⟨hg, h1 _ _ _ _ e1 (h3 _ _ _ _ e2 ?_)⟩
          refine (if_pos rfl : _ = _).mpr (h2 _ _ _ _ e3 ⟨by omega, ?_⟩)
          exact compL_ok hg h1 h2 h3 xs (acc ++ [d]) ds' ρ Κ e4 (by rw [List.length_append]; simp; omega) (by rw [List.append_assoc]; exact q)
        · cases h
      · rename_i e2
        refine ⟨hg, h1 _ _ _ _ e1 (h3 _ _ _ _ e2 ?_)⟩
        exact compL_ok hg h1 h2 h3 xs acc ds ρ Κ h (by omega) q
      · cases h
    · cases h
end Fk
end
section
set_option maxHeartbeats 2000000
namespace Fk
open PySem PySem.Spec PyProof.Rows L2
theorem pair_some {α β γ : Type} {o : Option α} {p : Option β} {g : α → β → Option γ} {d : γ} (h : (match o, p with
    | some x, some y => g x y
    | _, _ => none) = some d) : ∃ x y, o = some x ∧ p = some y ∧ g x y = some d := by
  split at h
  · exact ⟨_, _, rfl, rfl, h⟩
  · cases h
section
variable {T : Tbl} {cl : Nat → List D → Mem → Option D} {call : ACall} (hc : ∀ f ds μ d (Φ : AQ) Ψ, cl f ds μ = some d → Φ d μ → call f ds μ Φ Ψ)
include hc
mutual
theorem evE_ok : ∀ (e : CE) {ρ : Env} {μ : Mem} {d : D} {Φ : AQ} {Ψ : AX}, evE T cl e ρ μ = some d → Φ d μ → wE T call e ρ μ Φ Ψ
  | .var i, ρ, μ, d, Φ, Ψ, h, q => by
    unfold evE at h
    unfold wE
    rw [h]
    exact q
  | .con d0, ρ, μ, d, Φ, Ψ, h, q => by
    unfold evE at h
    cases h
    exact q
  | .glo x, ρ, μ, d, Φ, Ψ, h, q => by
    unfold evE at h
    unfold wE
    rw [h]
    exact q
  | .bin m op a b, ρ, μ, d, Φ, Ψ, h, q => by
    unfold evE at h
    unfold wE
    split at h
    · rename_i x y e1 e2
      exact evE_ok a e1 (evE_ok b e2 (evBin_ok h q))
    · cases h
  | .neg a, ρ, μ, d, Φ, Ψ, h, q => by
    unfold evE at h
    unfold wE
    split at h
    · rename_i i e1
      cases h
      exact evE_ok a e1 q
    · cases h
  | .cmp op a b, ρ, μ, d, Φ, Ψ, h, q => by
    unfold evE at h
    unfold wE
    split at h
    · rename_i x y e1 e2
      exact evE_ok a e1 (evE_ok b e2 (evCmp_ok h q))
    · cases h
  | .chain o1 o2 a b c, ρ, μ, d, Φ, Ψ, h, q => by
    unfold evE at h
    unfold wE
    split at h
    · rename_i x y e1 e2
      refine evE_ok a e1 (evE_ok b e2 ?_)
      split at h
      · rename_i e3
        split at h
        · rename_i z e4
          refine evCmpS_ok e3 ?_
          exact evE_ok c e4 (evCmpS_ok h q)
        · cases h
      · rename_i e3
        cases h
        exact evCmpS_ok e3 q
      · cases h
    · cases h
  | .bop o es, ρ, μ, d, Φ, Ψ, h, q => by
    unfold evE at h
    unfold wE
    exact evB_ok es o h q
  | .not a, ρ, μ, d, Φ, Ψ, h, q => by
    unfold evE at h
    unfold wE
    split at h
    · rename_i i e1
      cases h
      exact evE_ok a e1 q
    · cases h
  | .ite t a b, ρ, μ, d, Φ, Ψ, h, q => by
    unfold evE at h
    unfold wE
    split at h
    · rename_i e1
      refine evE_ok t e1 ?_
      exact evE_ok a h q
    · rename_i e1
      refine evE_ok t e1 ?_
      exact evE_ok b h q
    · cases h
  | .tup es, ρ, μ, d, Φ, Ψ, h, q => by
    unfold evE at h
    unfold wE
    split at h
    · rename_i ds e1
      obtain ⟨h1, rfl⟩ := if_some h
      exact evEs_ok es e1 ⟨h1, q⟩
    · cases h
  | .lst m es, ρ, μ, d, Φ, Ψ, h, q => by
    unfold evE at h
    unfold wE
    split at h
    · rename_i ds e1
      obtain ⟨⟨rfl, h1⟩, rfl⟩ := if_some h
      exact evEs_ok es e1 ⟨h1, q⟩
    · cases h
  | .dct m ks vs, ρ, μ, d, Φ, Ψ, h, q => by
    unfold evE at h
    unfold wE
    split at h
    · rename_i ds e1
      obtain ⟨⟨rfl, h1⟩, rfl⟩ := if_some h
      exact evEs_ok vs e1 ⟨h1, q⟩
    · cases h
  | .sub a i, ρ, μ, d, Φ, Ψ, h, q => by
    unfold evE at h
    unfold wE
    split at h
    · rename_i x y e1 e2
      exact evE_ok a e1 (evE_ok i e2 (evSub_ok h q))
    · cases h
  | .slc a lo hi, ρ, μ, d, Φ, Ψ, h, q => by
    unfold evE at h
    unfold wE
    split at h
    · rename_i x l hh e1 e2 e3
      refine evE_ok a e1 (evO_ok lo e2 (evO_ok hi e3 ?_))
      split at h
      · rename_i ds e4
        cases h
        try show (match deref μ x with | .list ds => _ | .tup ds => _ | .str z => _ | _ => False)
        try rw [e4]
        exact q
      · rename_i ds e4
        split at h
        · cases h
        · rename_i e5
          cases h
          try show (match deref μ x with | .list ds => _ | .tup ds => _ | .str z => _ | _ => False)
          try rw [e4]
          exact ⟨fun z => e5 (congrArg List.length z), q⟩
      · cases h
    · cases h
  | .blt f es, ρ, μ, d, Φ, Ψ, h, q => by
    unfold evE at h
    unfold wE
    split at h
    · rename_i ds e1
      exact evEs_ok es e1 (evBf_ok h q)
    · cases h
  | .isi a tp ts, ρ, μ, d, Φ, Ψ, h, q => by
    unfold evE at h
    unfold wE
    split at h
    · rename_i x e1
      refine evE_ok a e1 ?_
      split at h
      · rename_i b e2
        cases h
        try show (match isiA T μ x ts with | some b => Φ (.bl b) μ | none => False)
        try rw [e2]
        exact q
      · cases h
    · cases h
  | .call f es, ρ, μ, d, Φ, Ψ, h, q => by
    unfold evE at h
    unfold wE
    split at h
    · rename_i ds e1
      exact evEs_ok es e1 (hc _ _ _ _ _ _ h q)
    · cases h
  | .comp m elt tg own it cs, ρ, μ, d, Φ, Ψ, h, q => by
    unfold evE at h
    unfold wE
    split at h
    · rename_i items e1
      split at h
      · rename_i h1
        obtain ⟨rfl, h1⟩ := h1
        split at h
        · rename_i ds e2
          cases h
          refine evI_ok it e1 fun G g => ?_
          exact compL_ok g (fun x ρ ρ1 N => evTg_ok) (fun ρ d Φ Ψ => evE_ok elt) (fun ρ b Φ Ψ => evTs_ok cs) items [] ds _ _ e2 (by simpa using h1) q
        · cases h
      · cases h
    · cases h
  | .gdget x i, ρ, μ, d, Φ, Ψ, h, q => by
    unfold evE at h
    unfold wE
    split at h
    · rename_i kvs z e1 e2
      refine evE_ok i e2 ?_
      rw [e1]
      dsimp only
      rw [h]
      exact q
    · cases h
  | .gdin neg x i, ρ, μ, d, Φ, Ψ, h, q => by
    unfold evE at h
    unfold wE
    split at h
    · rename_i kvs z e1 e2
      cases h
      refine evE_ok i e2 ?_
      rw [e1]
      exact q
    · cases h
  | .meth _ _ _, _, _, _, _, _, h, _ => by cases h
  | .kcall _ _ _, _, _, _, _, _, h, _ => by cases h
  | .new _ _, _, _, _, _, _, h, _ => by cases h
  | .leno _, _, _, _, _, _, h, _ => by cases h
  | .bm _ _ _, _, _, _, _, _, h, _ => by cases h
  | .attr _ _, _, _, _, _, _, h, _ => by cases h
  | .frz _, _, _, _, _, _, h, _ => by cases h
  | .no, _, _, _, _, _, h, _ => by cases h
  | .xisi _ _ _, _, _, _, _, _, h, _ => by cases h
  | .xattr _ _, _, _, _, _, _, h, _ => by cases h
theorem evEs_ok : ∀ (e : CEs) {ρ : Env} {μ : Mem} {ds : List D} {Φ : List D → Mem → Prop} {Ψ : AX}, evEs T cl e ρ μ = some ds → Φ ds μ → wEs T call e ρ μ Φ Ψ
  | .nil, ρ, μ, ds, Φ, Ψ, h, q => by
    unfold evEs at h
    cases h
    exact q
  | .cons e es, ρ, μ, ds, Φ, Ψ, h, q => by
    unfold evEs at h
    unfold wEs
    split at h
    · rename_i d ds e1 e2
      cases h
      exact evE_ok e e1 (evEs_ok es e2 q)
    · cases h
theorem evB_ok : ∀ (e : CEs) (o : BoolOp) {ρ : Env} {μ : Mem} {d : D} {Φ : AQ} {Ψ : AX}, evB T cl o e ρ μ = some d → Φ d μ → wB T call o e ρ μ Φ Ψ
  | .nil, o, ρ, μ, d, Φ, Ψ, h, q => by
    unfold evB at h
    cases h
  | .cons e .nil, o, ρ, μ, d, Φ, Ψ, h, q => by
    unfold evB at h
    unfold wB
    exact evE_ok e h q
  | .cons e (.cons e2 es), o, ρ, μ, d, Φ, Ψ, h, q => by
    unfold evB at h
    unfold wB
    dsimp only at h ⊢
    split at h
    · rename_i b e1
      refine evE_ok e e1 ?_
      cases o <;> cases b <;> first
        | (cases (show some _ = some d from h); exact q)
        | exact evB_ok (.cons e2 es) .And (show evB T cl .And (.cons e2 es) ρ μ = some d from h) q
        | exact evB_ok (.cons e2 es) .Or (show evB T cl .Or (.cons e2 es) ρ μ = some d from h) q
    · cases h
theorem evTs_ok : ∀ (e : CEs) {ρ : Env} {μ : Mem} {b : Bool} {Φ : Bool → Mem → Prop} {Ψ : AX}, evTs T cl e ρ μ = some b → Φ b μ → wTs T call e ρ μ Φ Ψ
  | .nil, ρ, μ, b, Φ, Ψ, h, q => by
    unfold evTs at h
    cases h
    exact q
  | .cons e .nil, ρ, μ, b, Φ, Ψ, h, q => by
    unfold evTs at h
    unfold wTs
    dsimp only at h ⊢
    split at h
    · rename_i b e1
      cases h
      exact evE_ok e e1 q
    · cases h
  | .cons e (.cons _ _), ρ, μ, b, Φ, Ψ, h, q => by
    unfold evTs at h
    cases h
theorem evO_ok : ∀ (e : CO) {ρ : Env} {μ : Mem} {o : Option Int} {Φ : Option Int → Mem → Prop} {Ψ : AX}, evO T cl e ρ μ = some o → Φ o μ → wO T call e ρ μ Φ Ψ
  | .no, ρ, μ, o, Φ, Ψ, h, q => by
    unfold evO at h
    cases h
    exact q
  | .some e, ρ, μ, o, Φ, Ψ, h, q => by
    unfold evO at h
    unfold wO
    split at h
    · rename_i b e1
      cases h
      exact evE_ok e e1 q
    · cases h
theorem evI_ok : ∀ (it : CI) {ρ : Env} {μ : Mem} {ds : List D} {R : List D → (Mem → Prop) → Mem → Prop} {Ψ : AX}, evI T cl it ρ μ = some ds → (∀ G, G μ → R ds G μ) → wI T call it ρ μ R Ψ
  | .seq e, ρ, μ, ds, R, Ψ, h, q => by
    unfold evI at h
    unfold wI
    split at h
    · rename_i e1; cases h; exact evE_ok e e1 (q _ trivial)
    · rename_i e1; cases h; exact evE_ok e e1 (q _ trivial)
    · rename_i e1; cases h; exact evE_ok e e1 (q _ trivial)
    · rename_i e1; cases h; exact evE_ok e e1 (q _ trivial)
    · rename_i a e1
      split at h
      · rename_i ds e2
        cases h
        refine evE_ok e e1 ?_
        dsimp only
        rw [e2]
        exact q _ e2
      · cases h
    · cases h
  | .range1 e, ρ, μ, ds, R, Ψ, h, q => by
    unfold evI at h
    unfold wI
    split at h
    · rename_i n e1
      split at h
      · rename_i h1
        cases h
        exact evE_ok e e1 ⟨h1.1, h1.2, q _ trivial⟩
      · cases h
    · cases h
  | .range2 a b, ρ, μ, ds, R, Ψ, h, q => by
    unfold evI at h
    unfold wI
    split at h
    · rename_i n m e1 e2
      split at h
      · rename_i h1
        cases h
        exact evE_ok a e1 (evE_ok b e2 ⟨h1, q _ trivial⟩)
      · cases h
    · cases h
  | .enum e, ρ, μ, ds, R, Ψ, h, q => by
    unfold evI at h
    unfold wI
    split at h
    · rename_i e1; cases h; exact evE_ok e e1 (q _ trivial)
    · rename_i e1; cases h; exact evE_ok e e1 (q _ trivial)
    · rename_i a e1
      split at h
      · rename_i ds e2
        cases h
        refine evE_ok e e1 ?_
        dsimp only
        rw [e2]
        exact q _ e2
      · cases h
    · cases h
  | .zip a b, ρ, μ, ds, R, Ψ, h, q => by
    unfold evI at h
    unfold wI
    split at h
    · rename_i x y e1 e2
      split at h
      · rename_i xs ys e3 e4
        cases h
        refine evE_ok a e1 (evE_ok b e2 ?_)
        rw [e3, e4]
        exact q _ trivial
      · cases h
    · cases h
end
end
end Fk
end
section
set_option maxHeartbeats 2000000
namespace Fk
open PySem PySem.Spec PyProof.Rows L2
/-- how a statement ends -/
inductive Fl where
  | nx (ρ : Env) | rt (d : D) | bk (ρ : Env) | ct (ρ : Env)
def Fl.on (D : AEnds) (μ : Mem) : Fl → Prop
  | .nx ρ => D.nx ρ μ
  | .rt d => D.rt d μ
  | .bk ρ => D.bk ρ μ
  | .ct ρ => D.ct ρ μ
def evFor (tg : D → Env → Option Env) (bd : Env → Option Fl) : List D → Env → Option Fl
  | [], ρ => some (.nx ρ)
  | x :: xs, ρ => match tg x ρ with
    | some ρ1 => (match bd ρ1 with
      | some (.nx ρ2) => evFor tg bd xs ρ2
      | some (.ct ρ2) => evFor tg bd xs ρ2
      | some (.bk ρ2) => some (.nx ρ2)
      | some (.rt d) => some (.rt d)
      | none => none)
    | none => none
section
variable (T : Tbl) (cl : Nat → List D → Mem → Option D)
mutual
def evS : CS → Env → Mem → Option Fl
  | .asg t e, ρ, μ => (match evE T cl e ρ μ with
    | some d => (match evTg t d ρ with
      | some ρ1 => some (.nx ρ1)
      | none => none)
    | none => none)
  | .par i j a b, ρ, μ => (match evE T cl a ρ μ, evE T cl b ρ μ with
    | some x, some y => some (.nx ((ρ.set i (some x)).set j (some y)))
    | _, _ => none)
  | .aug i op e, ρ, μ => (match getSlot ρ i, evE T cl e ρ μ with
    | some (.int n), some (.int m) => (match op with
      | .Add => some (.nx (ρ.set i (some (.int (n + m)))))
      | .Sub => some (.nx (ρ.set i (some (.int (n - m)))))
      | _ => none)
    | _, _ => none)
  | .ex e, ρ, μ => (match evE T cl e ρ μ with
    | some _ => some (.nx ρ)
    | none => none)
  | .pass, ρ, _ => some (.nx ρ)
  | .brk, ρ, _ => some (.bk ρ)
  | .cont, ρ, _ => some (.ct ρ)
  | .ite t a b, ρ, μ => (match evE T cl t ρ μ with
    | some (.bl true) => evSs a ρ μ
    | some (.bl false) => evSs b ρ μ
    | _ => none)
  | .for_ t it b, ρ, μ => (match evI T cl it ρ μ with
    | some items => evFor (evTg t) (fun ρ1 => evSs b ρ1 μ) items ρ
    | none => none)
  | .ret e, ρ, μ => (match evE T cl e ρ μ with
    | some d => some (.rt d)
    | none => none)
  | .retN, _, _ => some (.rt .non)
  | _, _, _ => none
def evSs : CSs → Env → Mem → Option Fl
  | .nil, ρ, _ => some (.nx ρ)
  | .cons s ss, ρ, μ => (match evS s ρ μ with
    | some (.nx ρ1) => evSs ss ρ1 μ
    | some (.rt d) => some (.rt d)
    | some (.bk ρ1) => some (.bk ρ1)
    | some (.ct ρ1) => some (.ct ρ1)
    | none => none)
end
end
/-- a def called: its value -/
def evN (T : Tbl) : Nat → Nat → List D → Mem → Option D
  | 0, _, _, _ => none
  | n + 1, f, ds, μ => match T.fs[f]? with
    | some fd => if ds.length + fd.kw.length = fd.ps.length then (match evSs T (evN T n) fd.body ((ds ++ fd.kw.map (·.2)).map some ++ List.replicate (fd.N.length - fd.ps.length) none) μ with
      | some (.nx _) => some .non
      | some (.rt d) => some d
      | _ => none) else none
    | none => none
theorem forL_ok {tg : D → Env → Option Env} {bd : Env → Option Fl} {wtg : ATg} {wbd : ASt} {G : Mem → Prop} {μ : Mem} (hg : G μ)
    (h1 : ∀ x ρ ρ1 (N : Env → Mem → Prop), tg x ρ = some ρ1 → N ρ1 μ → wtg x ρ μ N) (h2 : ∀ ρ r D, bd ρ = some r → r.on D μ → wbd D ρ μ) :
    ∀ (items : List D) (ρ : Env) (r : Fl) (D : AEnds), evFor tg bd items ρ = some r → r.on D μ → forL wtg wbd G items D ρ μ
  | [], ρ, r, D, h, q => by
    cases h
    exact ⟨hg, q⟩
  | x :: xs, ρ, r, D, h, q => by
    unfold evFor at h
    split at h
    · rename_i ρ1 e1
      refine ⟨hg, h1 _ _ _ _ e1 ?_⟩
      split at h
      · rename_i ρ2 e2
        exact h2 _ _ _ e2 (forL_ok hg h1 h2 xs ρ2 r D h q)
      · rename_i ρ2 e2
        exact h2 _ _ _ e2 (forL_ok hg h1 h2 xs ρ2 r D h q)
      · rename_i ρ2 e2
        cases h
        exact h2 _ _ _ e2 q
      · rename_i d e2
        cases h
        exact h2 _ _ _ e2 q
      · cases h
    · cases h
section
variable {T : Tbl} {cl : Nat → List D → Mem → Option D} {call : ACall} (hc : ∀ f ds μ d (Φ : AQ) Ψ, cl f ds μ = some d → Φ d μ → call f ds μ Φ Ψ)
include hc
mutual
theorem evS_ok : ∀ (s : CS) {ρ : Env} {μ : Mem} {r : Fl} {D : AEnds}, evS T cl s ρ μ = some r → r.on D μ → wS T call s D ρ μ
  | .asg t e, ρ, μ, r, D, h, q => by
    unfold evS at h
    unfold wS
    split at h
    · rename_i d e1
      split at h
      · rename_i ρ1 e2
        cases h
        exact evE_ok hc e e1 (evTg_ok e2 q)
      · cases h
    · cases h
  | .par i j a b, ρ, μ, r, D, h, q => by
    unfold evS at h
    unfold wS
    split at h
    · rename_i x y e1 e2
      cases h
      exact evE_ok hc a e1 (evE_ok hc b e2 q)
    · cases h
  | .aug i op e, ρ, μ, r, D, h, q => by
    unfold evS at h
    unfold wS
    split at h
    · rename_i n m e1 e2
      rw [e1]
      dsimp only
      refine evE_ok hc e e2 ?_
      cases op <;> first
        | (cases (show none = some r from h); done)
        | (cases (show some _ = some r from h); exact q)
    · cases h
  | .ex e, ρ, μ, r, D, h, q => by
    unfold evS at h
    unfold wS
    split at h
    · rename_i d e1
      cases h
      exact evE_ok hc e e1 q
    · cases h
  | .pass, ρ, μ, r, D, h, q => by
    unfold evS at h
    cases h
    exact q
  | .brk, ρ, μ, r, D, h, q => by
    unfold evS at h
    cases h
    exact q
  | .cont, ρ, μ, r, D, h, q => by
    unfold evS at h
    cases h
    exact q
  | .ite t a b, ρ, μ, r, D, h, q => by
    unfold evS at h
    unfold wS
    split at h
    · rename_i e1
      refine evE_ok hc t e1 ?_
      exact evSs_ok a h q
    · rename_i e1
      refine evE_ok hc t e1 ?_
      exact evSs_ok b h q
    · cases h
  | .for_ t it b, ρ, μ, r, D, h, q => by
    unfold evS at h
    unfold wS
    split at h
    · rename_i items e1
      refine evI_ok hc it e1 fun G g => ?_
      exact forL_ok g (fun x ρ ρ1 N => evTg_ok) (fun ρ r D => evSs_ok b) items ρ r D h q
    · cases h
  | .ret e, ρ, μ, r, D, h, q => by
    unfold evS at h
    unfold wS
    split at h
    · rename_i d e1
      cases h
      exact evE_ok hc e e1 q
    · cases h
  | .retN, ρ, μ, r, D, h, q => by
    unfold evS at h
    cases h
    exact q
  | .while_ _ _, _, _, _, _, h, _ => by cases h
  | .fz _, _, _, _, _, h, _ => by cases h
  | .raise _ _, _, _, _, _, h, _ => by cases h
  | .try_ _ _ _ _, _, _, _, _, h, _ => by cases h
  | .tryT _, _, _, _, _, h, _ => by cases h
  | .tryN _ _ _, _, _, _, _, h, _ => by cases h
  | .no, _, _, _, _, h, _ => by cases h
theorem evSs_ok : ∀ (s : CSs) {ρ : Env} {μ : Mem} {r : Fl} {D : AEnds}, evSs T cl s ρ μ = some r → r.on D μ → wSs T call s D ρ μ
  | .nil, ρ, μ, r, D, h, q => by
    unfold evSs at h
    cases h
    exact q
  | .cons s ss, ρ, μ, r, D, h, q => by
    unfold evSs at h
    unfold wSs
    split at h
    · rename_i ρ1 e1
      exact evS_ok s e1 (evSs_ok ss h q)
    · rename_i e1
      cases h
      exact evS_ok s e1 q
    · rename_i e1
      cases h
      exact evS_ok s e1 q
    · rename_i e1
      cases h
      exact evS_ok s e1 q
    · cases h
end
end
/-- what the evaluator says is what the call does -/
theorem evN_ok {T : Tbl} : ∀ (n f : Nat) (ds : List D) (μ : Mem) (d : D) (Φ : AQ) (Ψ : AX), evN T n f ds μ = some d → Φ d μ → callN T n f ds μ Φ Ψ
  | 0, f, ds, μ, d, Φ, Ψ, h, q => by cases h
  | n + 1, f, ds, μ, d, Φ, Ψ, h, q => by
    unfold evN at h
    unfold callN
    split at h
    · rename_i fd e
      split at h
      · rename_i hl
        try rw [e]
        refine ⟨hl, ?_⟩
        split at h
        · rename_i ρ1 e1
          cases h
          exact evSs_ok (evN_ok n) fd.body e1 q
        · rename_i d' e1
          cases h
          exact evSs_ok (evN_ok n) fd.body e1 q
        · cases h
      · cases h
    · cases h
end Fk
end
section
set_option maxHeartbeats 2000000
/-! Rules for what must hold so that a core runs: one for each construct, to be gone by from the front. -/
namespace Fk
open PySem PySem.Spec PyProof.Rows L2
/-! the readings under names that are never unfolded -/
@[irreducible] def xE (T : Tbl) (call : ACall) (e : CE) : AE := wE T call e
@[irreducible] def xEs (T : Tbl) (call : ACall) (e : CEs) : AEs := wEs T call e
@[irreducible] def xB (T : Tbl) (call : ACall) (o : BoolOp) (e : CEs) : AE := wB T call o e
@[irreducible] def xTs (T : Tbl) (call : ACall) (e : CEs) : AT := wTs T call e
@[irreducible] def xO (T : Tbl) (call : ACall) (e : CO) : Env → Mem → (Option Int → Mem → Prop) → AX → Prop := wO T call e
@[irreducible] def xTg (T : Tbl) (call : ACall) (t : CT) : ATg := wTg T call t
@[irreducible] def xTgs (T : Tbl) (call : ACall) (t : CTs) : List D → Env → Mem → (Env → Mem → Prop) → Prop := wTgs T call t
@[irreducible] def xI (T : Tbl) (call : ACall) (i : CI) : AI := wI T call i
@[irreducible] def xS (T : Tbl) (call : ACall) (s : CS) : ASt := wS T call s
@[irreducible] def xSs (T : Tbl) (call : ACall) (s : CSs) : ASt := wSs T call s
@[irreducible] def xT (T : Tbl) (call : ACall) (e : CE) : AT := wT T call e
@[irreducible] def xN (T : Tbl) (n : Nat) : ACall := callN T n
@[irreducible] def xcmpC (T : Tbl) (call : ACall) (op : CmpOp) (x y : D) (μ : Mem) (Φ : AQ) (Ψ : AX) : Prop := cmpC T call op x y μ Φ Ψ
@[irreducible] def xcmpS (op : CmpOp) (x y : D) (μ : Mem) (Φ : AQ) : Prop := cmpS op x y μ Φ
@[irreducible] def xbinS (m : Bool) (op : Operator) (x y : D) (μ : Mem) (Φ : AQ) : Prop := binS m op x y μ Φ
@[irreducible] def xsubS (x i : D) (μ : Mem) (Φ : AQ) : Prop := subS x i μ Φ
@[irreducible] def xbfS (f : BF) (xs : List D) (μ : Mem) (Φ : AQ) : Prop := bfS f xs μ Φ
@[irreducible] def xbmS (f : BM) (x : D) (xs : List D) (μ : Mem) (Φ : AQ) : Prop := bmS f x xs μ Φ
@[irreducible] def xnewL (m : Bool) (ds : List D) (μ : Mem) (Φ : AQ) : Prop := newL m ds μ Φ
@[irreducible] def xnewK (m : Bool) (kvs : List (Key × D)) (μ : Mem) (Φ : AQ) : Prop := newK m kvs μ Φ
@[irreducible] def xcompL (tg : ATg) (elt : AE) (tst : AT) (G : Mem → Prop) (l acc : List D) (ρ : Env) (μ : Mem) (Κ : List D → Mem → Prop) : Prop := compL tg elt tst G l acc ρ μ Κ
@[irreducible] def xforL (tg : ATg) (bd : ASt) (G : Mem → Prop) (l : List D) : ASt := forL tg bd G l
theorem xN_eq {T : Tbl} {n f : Nat} {ds : List D} {μ : Mem} {Φ : AQ} {Ψ : AX} (h : xN T n f ds μ Φ Ψ) : callN T n f ds μ Φ Ψ := by unfold xN at h; exact h
theorem xcmpS_ok {op : CmpOp} {x y d : D} {μ : Mem} {Φ : AQ} (h : evCmpS op x y μ = some d) (q : Φ d μ) : xcmpS op x y μ Φ := by unfold xcmpS; exact evCmpS_ok h q
theorem xN_ok {T : Tbl} (n f : Nat) (ds : List D) (μ : Mem) (d : D) (Φ : AQ) (Ψ : AX) (h : evN T n f ds μ = some d) (q : Φ d μ) : xN T n f ds μ Φ Ψ := by unfold xN; exact evN_ok n f ds μ d Φ Ψ h q
/-! named pieces -/
def negQ (d : D) (μ : Mem) (Φ : AQ) : Prop := match d with
  | .int i => Φ (.int (-i)) μ
  | _ => False
def notQ (d : D) (μ : Mem) (Φ : AQ) : Prop := match d with
  | .bl b => Φ (.bl (!b)) μ
  | _ => False
def tQ (d : D) (μ : Mem) (Φ : Bool → Mem → Prop) : Prop := match d with
  | .bl b => Φ b μ
  | _ => False
def selQ (d : D) (A B : Prop) : Prop := match d with
  | .bl true => A
  | .bl false => B
  | _ => False
def intQ (d : D) (k : Int → Prop) : Prop := match d with
  | .int i => k i
  | _ => False
def intQO (d : D) (μ : Mem) (Φ : Option Int → Mem → Prop) : Prop := match d with
  | .int i => Φ (some i) μ
  | _ => False
theorem r_intQO {i : Int} {μ : Mem} {Φ : Option Int → Mem → Prop} (q : Φ (some i) μ) : intQO (.int i) μ Φ := q
def isiQ (T : Tbl) (μ : Mem) (x : D) (ts : List IC) (Φ : AQ) : Prop := match isiA T μ x ts with
  | some b => Φ (.bl b) μ
  | none => False
section
variable {T : Tbl} {call : ACall} {ρ ρ' : Env} {μ : Mem} {Φ : AQ} {Ψ : AX} {d x y : D} {a b e t o : CE} {es : CEs} {i j : Nat}
theorem r_var_z (h : getSlot ρ i = some d) (q : Φ d μ) : wE T call (.var i) ρ μ Φ Ψ := by
  unfold wE; rw [h]; exact q
theorem r_var (h : getSlot ρ i = some d) (q : Φ d μ) : xE T call (.var i) ρ μ Φ Ψ := by with_unfolding_all exact r_var_z h q
theorem getSlot_x (h : ρ[i]? = some (some d)) (hx : isX d = false) : getSlot ρ i = some d := by
  unfold getSlot; rw [h]; simp [hx]
theorem r_varx_z (h : ρ[i]? = some (some d)) (hx : isX d = false) (q : Φ d μ) : wE T call (.var i) ρ μ Φ Ψ := r_var_z (getSlot_x h hx) q
theorem r_varx (h : ρ[i]? = some (some d)) (hx : isX d = false) (q : Φ d μ) : xE T call (.var i) ρ μ Φ Ψ := by with_unfolding_all exact r_varx_z h hx q
theorem r_con_z (q : Φ d μ) : wE T call (.con d) ρ μ Φ Ψ := q
theorem r_con (q : Φ d μ) : xE T call (.con d) ρ μ Φ Ψ := by with_unfolding_all exact r_con_z q
theorem r_glo_z {z : Str} (h : T.glo z = some d) (q : Φ d μ) : wE T call (.glo z) ρ μ Φ Ψ := by
  unfold wE; rw [h]; exact q
theorem r_glo {z : Str} (h : T.glo z = some d) (q : Φ d μ) : xE T call (.glo z) ρ μ Φ Ψ := by with_unfolding_all exact r_glo_z h q
theorem r_bin_z {m : Bool} {op : Operator} (q : wE T call a ρ μ (fun x μ1 => wE T call b ρ μ1 (fun y μ2 => binS m op x y μ2 Φ) Ψ) Ψ) : wE T call (.bin m op a b) ρ μ Φ Ψ := q
theorem r_bin {m : Bool} {op : Operator} (q : xE T call a ρ μ (fun x μ1 => xE T call b ρ μ1 (fun y μ2 => xbinS m op x y μ2 Φ) Ψ) Ψ) : xE T call (.bin m op a b) ρ μ Φ Ψ := by with_unfolding_all exact r_bin_z q
theorem r_neg_z (q : wE T call a ρ μ (fun x μ1 => negQ x μ1 Φ) Ψ) : wE T call (.neg a) ρ μ Φ Ψ := q
theorem r_neg (q : xE T call a ρ μ (fun x μ1 => negQ x μ1 Φ) Ψ) : xE T call (.neg a) ρ μ Φ Ψ := by with_unfolding_all exact r_neg_z q
theorem r_negQ {n : Int} (q : Φ (.int (-n)) μ) : negQ (.int n) μ Φ := q
theorem r_cmp_z {op : CmpOp} (q : wE T call a ρ μ (fun x μ1 => wE T call b ρ μ1 (fun y μ2 => cmpC T call op x y μ2 Φ Ψ) Ψ) Ψ) : wE T call (.cmp op a b) ρ μ Φ Ψ := q
theorem r_cmp {op : CmpOp} (q : xE T call a ρ μ (fun x μ1 => xE T call b ρ μ1 (fun y μ2 => xcmpC T call op x y μ2 Φ Ψ) Ψ) Ψ) : xE T call (.cmp op a b) ρ μ Φ Ψ := by with_unfolding_all exact r_cmp_z q
theorem r_chain_z {o1 o2 : CmpOp} {c : CE} (q : wE T call a ρ μ (fun x μ1 => wE T call b ρ μ1 (fun y μ2 => cmpS o1 x y μ2 (fun r μ3 => match r with
    | .bl true => wE T call c ρ μ3 (fun z μ4 => cmpS o2 y z μ4 Φ) Ψ
    | .bl false => Φ (.bl false) μ3
    | _ => False)) Ψ) Ψ) : wE T call (.chain o1 o2 a b c) ρ μ Φ Ψ := q
theorem r_chain {o1 o2 : CmpOp} {c : CE} (q : xE T call a ρ μ (fun x μ1 => xE T call b ρ μ1 (fun y μ2 => xcmpS o1 x y μ2 (fun r μ3 => match r with
    | .bl true => xE T call c ρ μ3 (fun z μ4 => xcmpS o2 y z μ4 Φ) Ψ
    | .bl false => Φ (.bl false) μ3
    | _ => False)) Ψ) Ψ) : xE T call (.chain o1 o2 a b c) ρ μ Φ Ψ := by with_unfolding_all exact r_chain_z q
theorem r_bop_z {o : BoolOp} (q : wB T call o es ρ μ Φ Ψ) : wE T call (.bop o es) ρ μ Φ Ψ := q
theorem r_bop {o : BoolOp} (q : xB T call o es ρ μ Φ Ψ) : xE T call (.bop o es) ρ μ Φ Ψ := by with_unfolding_all exact r_bop_z q
theorem r_bop1_z {o : BoolOp} (q : wE T call a ρ μ Φ Ψ) : wB T call o (.cons a .nil) ρ μ Φ Ψ := q
theorem r_bop1 {o : BoolOp} (q : xE T call a ρ μ Φ Ψ) : xB T call o (.cons a .nil) ρ μ Φ Ψ := by with_unfolding_all exact r_bop1_z q
theorem r_and_z {b : CE} (q : wE T call a ρ μ (fun d μ1 => tQ d μ1 fun k μ1 => if k = true then wB T call .And (.cons b es) ρ μ1 Φ Ψ else Φ (.bl false) μ1) Ψ) : wB T call .And (.cons a (.cons b es)) ρ μ Φ Ψ := q
theorem r_and {b : CE} (q : xE T call a ρ μ (fun d μ1 => tQ d μ1 fun k μ1 => if k = true then xB T call .And (.cons b es) ρ μ1 Φ Ψ else Φ (.bl false) μ1) Ψ) : xB T call .And (.cons a (.cons b es)) ρ μ Φ Ψ := by with_unfolding_all exact r_and_z q
theorem r_or_z {b : CE} (q : wE T call a ρ μ (fun d μ1 => tQ d μ1 fun k μ1 => if k = true then Φ (.bl true) μ1 else wB T call .Or (.cons b es) ρ μ1 Φ Ψ) Ψ) : wB T call .Or (.cons a (.cons b es)) ρ μ Φ Ψ := q
theorem r_or {b : CE} (q : xE T call a ρ μ (fun d μ1 => tQ d μ1 fun k μ1 => if k = true then Φ (.bl true) μ1 else xB T call .Or (.cons b es) ρ μ1 Φ Ψ) Ψ) : xB T call .Or (.cons a (.cons b es)) ρ μ Φ Ψ := by with_unfolding_all exact r_or_z q
theorem r_not_z (q : wE T call a ρ μ (fun x μ1 => notQ x μ1 Φ) Ψ) : wE T call (.not a) ρ μ Φ Ψ := q
theorem r_not (q : xE T call a ρ μ (fun x μ1 => notQ x μ1 Φ) Ψ) : xE T call (.not a) ρ μ Φ Ψ := by with_unfolding_all exact r_not_z q
theorem r_notQ {k : Bool} (q : Φ (.bl (!k)) μ) : notQ (.bl k) μ Φ := q
theorem r_ite_z (q : wE T call t ρ μ (fun k μ1 => tQ k μ1 fun k μ1 => if k = true then wE T call a ρ μ1 Φ Ψ else wE T call b ρ μ1 Φ Ψ) Ψ) : wE T call (.ite t a b) ρ μ Φ Ψ := by
  unfold wE
  refine Eq.mp (congrArg (fun f => wE T call t ρ μ f Ψ) ?_) q
  funext k μ1
  cases k with
  | bl k => cases k <;> simp [tQ]
  | _ => rfl
theorem r_ite (q : xE T call t ρ μ (fun k μ1 => tQ k μ1 fun k μ1 => if k = true then xE T call a ρ μ1 Φ Ψ else xE T call b ρ μ1 Φ Ψ) Ψ) : xE T call (.ite t a b) ρ μ Φ Ψ := by with_unfolding_all exact r_ite_z q
theorem r_tQ {k : Bool} {Φ : Bool → Mem → Prop} (q : Φ k μ) : tQ (.bl k) μ Φ := q
theorem r_tup_z (q : wEs T call es ρ μ (fun ds μ1 => ds.length ≤ 1000 ∧ Φ (.tup ds) μ1) Ψ) : wE T call (.tup es) ρ μ Φ Ψ := q
theorem r_tup (q : xEs T call es ρ μ (fun ds μ1 => ds.length ≤ 1000 ∧ Φ (.tup ds) μ1) Ψ) : xE T call (.tup es) ρ μ Φ Ψ := by with_unfolding_all exact r_tup_z q
theorem r_lst_z {m : Bool} (q : wEs T call es ρ μ (fun ds μ1 => ds.length ≤ 1000 ∧ newL m ds μ1 Φ) Ψ) : wE T call (.lst m es) ρ μ Φ Ψ := q
theorem r_lst {m : Bool} (q : xEs T call es ρ μ (fun ds μ1 => ds.length ≤ 1000 ∧ xnewL m ds μ1 Φ) Ψ) : xE T call (.lst m es) ρ μ Φ Ψ := by with_unfolding_all exact r_lst_z q
theorem r_len {ds : List D} {n : Nat} {P : Prop} (h : Nat.ble ds.length n = true) (q : P) : ds.length ≤ n ∧ P := ⟨Nat.le_of_ble_eq_true h, q⟩
theorem r_dct_z {m : Bool} {ks : List Key} (q : wEs T call es ρ μ (fun ds μ1 => ds.length = ks.length ∧ newK m (ks.zip ds) μ1 Φ) Ψ) : wE T call (.dct m ks es) ρ μ Φ Ψ := q
theorem r_dct {m : Bool} {ks : List Key} (q : xEs T call es ρ μ (fun ds μ1 => ds.length = ks.length ∧ xnewK m (ks.zip ds) μ1 Φ) Ψ) : xE T call (.dct m ks es) ρ μ Φ Ψ := by with_unfolding_all exact r_dct_z q
theorem r_lenE {ds : List D} {n : Nat} {P : Prop} (h : ds.length = n) (q : P) : ds.length = n ∧ P := ⟨h, q⟩
theorem r_sub_z (q : wE T call a ρ μ (fun x μ1 => wE T call b ρ μ1 (fun y μ2 => subS x y μ2 Φ) Ψ) Ψ) : wE T call (.sub a b) ρ μ Φ Ψ := q
theorem r_sub (q : xE T call a ρ μ (fun x μ1 => xE T call b ρ μ1 (fun y μ2 => xsubS x y μ2 Φ) Ψ) Ψ) : xE T call (.sub a b) ρ μ Φ Ψ := by with_unfolding_all exact r_sub_z q
theorem r_blt_z {f : BF} (q : wEs T call es ρ μ (fun ds μ1 => bfS f ds μ1 Φ) Ψ) : wE T call (.blt f es) ρ μ Φ Ψ := q
theorem r_blt {f : BF} (q : xEs T call es ρ μ (fun ds μ1 => xbfS f ds μ1 Φ) Ψ) : xE T call (.blt f es) ρ μ Φ Ψ := by with_unfolding_all exact r_blt_z q
theorem r_isi_z {tp : Bool} {ts : List IC} (q : wE T call a ρ μ (fun x μ1 => isiQ T μ1 x ts Φ) Ψ) : wE T call (.isi a tp ts) ρ μ Φ Ψ := q
theorem r_isi {tp : Bool} {ts : List IC} (q : xE T call a ρ μ (fun x μ1 => isiQ T μ1 x ts Φ) Ψ) : xE T call (.isi a tp ts) ρ μ Φ Ψ := by with_unfolding_all exact r_isi_z q
theorem r_isiQ {ts : List IC} {k : Bool} (h : isiA T μ x ts = some k) (q : Φ (.bl k) μ) : isiQ T μ x ts Φ := by
  unfold isiQ; rw [h]; exact q
def kcQ (T : Tbl) (call : ACall) (f j : Nat) (ds : List D) (μ1 : Mem) (Φ : AQ) (Ψ : AX) : Prop := match T.fs[f]? with
    | some fd => (match fd.kcs[j]? with
      | some kc => ds.length = kc.1.length ∧ call f (kc.2.map fun i => ds.getD i .non) μ1 Φ Ψ
      | none => False)
    | none => False
theorem r_kcall_z {f j : Nat} (q : wEs T call es ρ μ (fun ds μ1 => kcQ T call f j ds μ1 Φ Ψ) Ψ) : wE T call (.kcall f j es) ρ μ Φ Ψ := q
theorem r_kcall {f j : Nat} (q : xEs T call es ρ μ (fun ds μ1 => kcQ T call f j ds μ1 Φ Ψ) Ψ) : xE T call (.kcall f j es) ρ μ Φ Ψ := by with_unfolding_all exact r_kcall_z q
theorem r_kcQ {f j : Nat} {fd : Fdef} {ks : List Str} {sel : List Nat} {ds es : List D} (hf : T.fs[f]? = some fd) (hj : fd.kcs[j]? = some (ks, sel)) (hl : ds.length = ks.length) (he : (sel.map fun i => ds.getD i .non) = es) (q : call f es μ Φ Ψ) : kcQ T call f j ds μ Φ Ψ := by
  unfold kcQ; rw [hf]; dsimp only; rw [hj]; exact ⟨hl, he ▸ q⟩
theorem r_call_z {f : Nat} (q : wEs T call es ρ μ (fun ds μ1 => call f ds μ1 Φ Ψ) Ψ) : wE T call (.call f es) ρ μ Φ Ψ := q
theorem r_call {f : Nat} (q : xEs T call es ρ μ (fun ds μ1 => call f ds μ1 Φ Ψ) Ψ) : xE T call (.call f es) ρ μ Φ Ψ := by with_unfolding_all exact r_call_z q
def methQ (T : Tbl) (call : ACall) (x : D) (m : Nat) (es : CEs) (ρ : Env) (μ1 : Mem) (Φ : AQ) (Ψ : AX) : Prop := match x with
    | .ref a => (match μ1 a with
      | some (.ins c _) => (match T.meth c m with
        | some f => wEs T call es ρ μ1 (fun ds μ2 => call f (.ref a :: ds) μ2 Φ Ψ) Ψ
        | none => False)
      | _ => False)
    | _ => False
theorem r_meth_z {m : Nat} (q : wE T call o ρ μ (fun x μ1 => methQ T call x m es ρ μ1 Φ Ψ) Ψ) : wE T call (.meth o m es) ρ μ Φ Ψ := q
theorem r_meth {m : Nat} (q : xE T call o ρ μ (fun x μ1 => methQ T call x m es ρ μ1 Φ Ψ) Ψ) : xE T call (.meth o m es) ρ μ Φ Ψ := by with_unfolding_all exact r_meth_z q
theorem r_methQ_z {p : Addr} {c m f : Nat} {fs : List (Nat × D)} (h : μ p = some (.ins c fs)) (h2 : T.meth c m = some f) (q : wEs T call es ρ μ (fun ds μ2 => call f (.ref p :: ds) μ2 Φ Ψ) Ψ) : methQ T call (.ref p) m es ρ μ Φ Ψ := by
  unfold methQ; dsimp only; rw [h]; dsimp only; rw [h2]; exact q
theorem r_methQ {p : Addr} {c m f : Nat} {fs : List (Nat × D)} (h : μ p = some (.ins c fs)) (h2 : T.meth c m = some f) (q : xEs T call es ρ μ (fun ds μ2 => call f (.ref p :: ds) μ2 Φ Ψ) Ψ) : methQ T call (.ref p) m es ρ μ Φ Ψ := by with_unfolding_all exact r_methQ_z h h2 q
def newQ (T : Tbl) (call : ACall) (c : Nat) (ds : List D) (μ1 : Mem) (Φ : AQ) (Ψ : AX) : Prop := match T.init c with
    | some f => ∀ a, μ1 a = none → call f (.ref a :: ds) (mset μ1 a (.ins c [])) (fun r μ2 => (match r with
      | .non => Φ (.ref a) μ2
      | _ => False)) Ψ
    | none => False
theorem r_new_z {c : Nat} (q : wEs T call es ρ μ (fun ds μ1 => newQ T call c ds μ1 Φ Ψ) Ψ) : wE T call (.new c es) ρ μ Φ Ψ := q
theorem r_new {c : Nat} (q : xEs T call es ρ μ (fun ds μ1 => newQ T call c ds μ1 Φ Ψ) Ψ) : xE T call (.new c es) ρ μ Φ Ψ := by with_unfolding_all exact r_new_z q
theorem r_newQ {c f : Nat} {ds : List D} (h : T.init c = some f) (q : ∀ p, μ p = none → call f (.ref p :: ds) (mset μ p (.ins c [])) (fun r μ2 => (match r with
      | .non => Φ (.ref p) μ2
      | _ => False)) Ψ) : newQ T call c ds μ Φ Ψ := by
  unfold newQ; rw [h]; exact q
def lenQ (T : Tbl) (call : ACall) (x : D) (μ1 : Mem) (Φ : AQ) (Ψ : AX) : Prop := match x with
    | .ref a => (match μ1 a with
      | some (.ins c _) => (match T.lenF c with
        | some f => call f [x] μ1 (fun r μ2 => ∃ n : Nat, r = .int n ∧ n ≤ 16777216 ∧ Φ r μ2) Ψ
        | none => False)
      | _ => False)
    | _ => False
theorem r_leno_z (q : wE T call o ρ μ (fun x μ1 => lenQ T call x μ1 Φ Ψ) Ψ) : wE T call (.leno o) ρ μ Φ Ψ := q
theorem r_leno (q : xE T call o ρ μ (fun x μ1 => lenQ T call x μ1 Φ Ψ) Ψ) : xE T call (.leno o) ρ μ Φ Ψ := by with_unfolding_all exact r_leno_z q
theorem r_lenQ {p : Addr} {c f : Nat} {fs : List (Nat × D)} (h : μ p = some (.ins c fs)) (h2 : T.lenF c = some f) (q : call f [.ref p] μ (fun r μ2 => ∃ n : Nat, r = .int n ∧ n ≤ 16777216 ∧ Φ r μ2) Ψ) : lenQ T call (.ref p) μ Φ Ψ := by
  unfold lenQ; dsimp only; rw [h]; dsimp only; rw [h2]; exact q
theorem r_bm_z {f : BM} (q : wE T call o ρ μ (fun x μ1 => bmTy f μ1 x ∧ wEs T call es ρ μ1 (fun ds μ2 => bmS f x ds μ2 Φ) Ψ) Ψ) : wE T call (.bm f o es) ρ μ Φ Ψ := q
theorem r_bm {f : BM} (q : xE T call o ρ μ (fun x μ1 => bmTy f μ1 x ∧ xEs T call es ρ μ1 (fun ds μ2 => xbmS f x ds μ2 Φ) Ψ) Ψ) : xE T call (.bm f o es) ρ μ Φ Ψ := by with_unfolding_all exact r_bm_z q
theorem r_bmA {p : Addr} {ds : List D} {P : Prop} (h : μ p = some (.lst ds)) (q : P) : bmTy .append μ (.ref p) ∧ P := ⟨by unfold bmTy; dsimp only; rw [h]; trivial, q⟩
theorem r_bmC {p : Addr} {ds : List D} {P : Prop} (h : μ p = some (.lst ds)) (q : P) : bmTy .clear μ (.ref p) ∧ P := ⟨by unfold bmTy; dsimp only; rw [h]; trivial, q⟩
theorem r_bmU {p : Addr} {ks : List Key} {ds : List D} {P : Prop} (h : μ p = some (.dK ks ds)) (q : P) : bmTy .update μ (.ref p) ∧ P := ⟨by unfold bmTy; dsimp only; rw [h]; trivial, q⟩
theorem r_app_z {p : Addr} {ds : List D} (h : μ p = some (.lst ds)) (hl : ds.length < sizeLine) (q : Φ .non (mset μ p (.lst (ds ++ [y])))) : bmS .append (.ref p) [y] μ Φ := by
  unfold bmS; dsimp only; rw [h]; exact ⟨hl, q⟩
theorem r_app {p : Addr} {ds : List D} (h : μ p = some (.lst ds)) (hl : ds.length < sizeLine) (q : Φ .non (mset μ p (.lst (ds ++ [y])))) : xbmS .append (.ref p) [y] μ Φ := by with_unfolding_all exact r_app_z h hl q
theorem r_clr_z {p : Addr} {ds : List D} (h : μ p = some (.lst ds)) (q : Φ .non (mset μ p (.lst []))) : bmS .clear (.ref p) [] μ Φ := by
  unfold bmS; dsimp only; rw [h]; exact q
theorem r_clr {p : Addr} {ds : List D} (h : μ p = some (.lst ds)) (q : Φ .non (mset μ p (.lst []))) : xbmS .clear (.ref p) [] μ Φ := by with_unfolding_all exact r_clr_z h q
theorem r_bmP {p : Addr} {ds : List D} {P : Prop} (h : μ p = some (.lst ds)) (q : P) : bmTy .pop μ (.ref p) ∧ P := ⟨by unfold bmTy; dsimp only; rw [h]; trivial, q⟩
theorem r_pop_z {p : Addr} {ds : List D} (h : μ p = some (.lst ds)) (hl : ds.getLast? = some d) (q : Φ d (mset μ p (.lst ds.dropLast))) : bmS .pop (.ref p) [] μ Φ := by
  unfold bmS; dsimp only; rw [h]; dsimp only; rw [hl]; exact q
theorem r_pop {p : Addr} {ds : List D} (h : μ p = some (.lst ds)) (hl : ds.getLast? = some d) (q : Φ d (mset μ p (.lst ds.dropLast))) : xbmS .pop (.ref p) [] μ Φ := by with_unfolding_all exact r_pop_z h hl q
theorem r_upd_z {p : Addr} {ks0 ks : List Key} {ds0 ds : List D} (h : μ p = some (.dK ks0 ds0)) (h1 : (ks0 ++ ks).Nodup) (h2 : ks.length = ds.length) (h3 : ks0.length = ds0.length) (h4 : Nat.ble (ks0 ++ ks).length 1000 = true) (q : Φ .non (mset μ p (.dK (ks0 ++ ks) (ds0 ++ ds)))) : bmS .update (.ref p) [.dict ks ds] μ Φ := by
  unfold bmS; dsimp only; rw [h]; exact ⟨h1, h2, h3, Nat.le_of_ble_eq_true h4, q⟩
theorem r_upd {p : Addr} {ks0 ks : List Key} {ds0 ds : List D} (h : μ p = some (.dK ks0 ds0)) (h1 : (ks0 ++ ks).Nodup) (h2 : ks.length = ds.length) (h3 : ks0.length = ds0.length) (h4 : Nat.ble (ks0 ++ ks).length 1000 = true) (q : Φ .non (mset μ p (.dK (ks0 ++ ks) (ds0 ++ ds)))) : xbmS .update (.ref p) [.dict ks ds] μ Φ := by with_unfolding_all exact r_upd_z h h1 h2 h3 h4 q
def attrQ (T : Tbl) (x : D) (f : Nat) (μ1 : Mem) (Φ : AQ) : Prop := match x with
    | .ref a => (match μ1 a with
      | some (.ins c fs) => (match T.init c, fs.lookup f with
        | some _, some d => Φ d μ1
        | _, _ => False)
      | _ => False)
    | _ => False
theorem r_attr_z {f : Nat} (q : wE T call o ρ μ (fun x μ1 => attrQ T x f μ1 Φ) Ψ) : wE T call (.attr o f) ρ μ Φ Ψ := q
theorem r_attr {f : Nat} (q : xE T call o ρ μ (fun x μ1 => attrQ T x f μ1 Φ) Ψ) : xE T call (.attr o f) ρ μ Φ Ψ := by with_unfolding_all exact r_attr_z q
theorem r_attrQ {p : Addr} {c f g : Nat} {fs : List (Nat × D)} (h : μ p = some (.ins c fs)) (h1 : T.init c = some g) (h2 : fs.lookup f = some d) (q : Φ d μ) : attrQ T (.ref p) f μ Φ := by
  unfold attrQ; dsimp only; rw [h]; dsimp only; rw [h1, h2]; exact q
theorem r_xisi_z {tp : Bool} {ts : List IC} {k : Nat} {fs : List Nat} {ds : List D} {v : Bool} (h : getX ρ i = some (k, fs, ds)) (h2 : isxA T k ts = some v) (q : Φ (.bl v) μ) : wE T call (.xisi i tp ts) ρ μ Φ Ψ := by
  unfold wE; rw [h]; dsimp only; rw [h2]; exact q
theorem r_xisi {tp : Bool} {ts : List IC} {k : Nat} {fs : List Nat} {ds : List D} {v : Bool} (h : getX ρ i = some (k, fs, ds)) (h2 : isxA T k ts = some v) (q : Φ (.bl v) μ) : xE T call (.xisi i tp ts) ρ μ Φ Ψ := by with_unfolding_all exact r_xisi_z h h2 q
theorem r_xattr_z {f c : Nat} {fs : List Nat} {ds : List D} {g : Option Nat} (h : getX ρ i = some (c, fs, ds)) (h2 : T.excF c = some g) (h3 : (fs.zip ds).lookup f = some d) (q : Φ d μ) : wE T call (.xattr i f) ρ μ Φ Ψ := by
  unfold wE; rw [h]; dsimp only; rw [h2, h3]; exact q
theorem r_xattr {f c : Nat} {fs : List Nat} {ds : List D} {g : Option Nat} (h : getX ρ i = some (c, fs, ds)) (h2 : T.excF c = some g) (h3 : (fs.zip ds).lookup f = some d) (q : Φ d μ) : xE T call (.xattr i f) ρ μ Φ Ψ := by with_unfolding_all exact r_xattr_z h h2 h3 q
theorem r_comp_z {m : Bool} {tg : CT} {own : List (Str × Nat)} {it : CI} {cs : CEs} (q : wI T call it ρ μ (fun items G μ1 => compL (wTg T call tg) (wE T call e) (wTs T call cs) G items [] (wipeE ρ (own.map (·.2))) μ1 (fun ds μ2 => newL m ds μ2 Φ)) Ψ) : wE T call (.comp m e tg own it cs) ρ μ Φ Ψ := q
theorem r_comp {m : Bool} {tg : CT} {own : List (Str × Nat)} {it : CI} {cs : CEs} (q : xI T call it ρ μ (fun items G μ1 => xcompL (xTg T call tg) (xE T call e) (xTs T call cs) G items [] (wipeE ρ (own.map (·.2))) μ1 (fun ds μ2 => xnewL m ds μ2 Φ)) Ψ) : xE T call (.comp m e tg own it cs) ρ μ Φ Ψ := by with_unfolding_all exact r_comp_z q
def gdgQ (kvs : List (Str × D)) (y : D) (μ1 : Mem) (Φ : AQ) : Prop := match y with
    | .str w => (match kvs.lookup w with
      | some d => Φ d μ1
      | none => False)
    | _ => False
theorem r_gdget_z {z : Str} {kvs : List (Str × D)} (h : T.gds z = some kvs) (q : wE T call e ρ μ (fun y μ1 => gdgQ kvs y μ1 Φ) Ψ) : wE T call (.gdget z e) ρ μ Φ Ψ := by
  unfold wE; rw [h]
  refine Eq.mp (congrArg (fun f => wE T call e ρ μ f Ψ) ?_) q
  funext y μ1
  cases y <;> rfl
theorem r_gdget {z : Str} {kvs : List (Str × D)} (h : T.gds z = some kvs) (q : xE T call e ρ μ (fun y μ1 => gdgQ kvs y μ1 Φ) Ψ) : xE T call (.gdget z e) ρ μ Φ Ψ := by with_unfolding_all exact r_gdget_z h q
theorem r_gdgetQ {kvs : List (Str × D)} {w : Str} (h : kvs.lookup w = some d) (q : Φ d μ) : gdgQ kvs (.str w) μ Φ := by
  unfold gdgQ; dsimp only; rw [h]; exact q
def gdinQ (neg : Bool) (kvs : List (Str × D)) (y : D) (μ1 : Mem) (Φ : AQ) : Prop := match y with
    | .str z => Φ (.bl (if neg = true then !(kvs.lookup z).isSome else (kvs.lookup z).isSome)) μ1
    | _ => False
theorem r_gdin_z {neg : Bool} {z : Str} {kvs : List (Str × D)} (h : T.gds z = some kvs) (q : wE T call e ρ μ (fun y μ1 => gdinQ neg kvs y μ1 Φ) Ψ) : wE T call (.gdin neg z e) ρ μ Φ Ψ := by
  unfold wE; rw [h]
  refine Eq.mp (congrArg (fun f => wE T call e ρ μ f Ψ) ?_) q
  funext y μ1
  cases y <;> rfl
theorem r_gdin {neg : Bool} {z : Str} {kvs : List (Str × D)} (h : T.gds z = some kvs) (q : xE T call e ρ μ (fun y μ1 => gdinQ neg kvs y μ1 Φ) Ψ) : xE T call (.gdin neg z e) ρ μ Φ Ψ := by with_unfolding_all exact r_gdin_z h q
theorem r_gdinQ {neg : Bool} {kvs : List (Str × D)} {z : Str} (q : Φ (.bl (if neg = true then !(kvs.lookup z).isSome else (kvs.lookup z).isSome)) μ) : gdinQ neg kvs (.str z) μ Φ := q
def slcQ (x : D) (l h : Option Int) (μ3 : Mem) (Φ : AQ) : Prop := match deref μ3 x with
    | .list ds => Φ (.list ((ds.drop (HT.sIx ds.length 0 l)).take (HT.sIx ds.length ds.length h - HT.sIx ds.length 0 l))) μ3
    | .tup ds => (ds.drop (HT.sIx ds.length 0 l)).take (HT.sIx ds.length ds.length h - HT.sIx ds.length 0 l) ≠ ds ∧ Φ (.tup ((ds.drop (HT.sIx ds.length 0 l)).take (HT.sIx ds.length ds.length h - HT.sIx ds.length 0 l))) μ3
    | .str s => s.length ≤ sizeLine ∧ Φ (.str (cutS s l h)) μ3
    | _ => False
theorem r_slc_z {lo hi : CO} (q : wE T call a ρ μ (fun x μ1 => wO T call lo ρ μ1 (fun l μ2 => wO T call hi ρ μ2 (fun h μ3 => slcQ x l h μ3 Φ) Ψ) Ψ) Ψ) : wE T call (.slc a lo hi) ρ μ Φ Ψ := q
theorem r_slc {lo hi : CO} (q : xE T call a ρ μ (fun x μ1 => xO T call lo ρ μ1 (fun l μ2 => xO T call hi ρ μ2 (fun h μ3 => slcQ x l h μ3 Φ) Ψ) Ψ) Ψ) : xE T call (.slc a lo hi) ρ μ Φ Ψ := by with_unfolding_all exact r_slc_z q
theorem slc1 {x : D} {r : List D} : ((x :: r).drop (HT.sIx (x :: r).length 0 (some 1))).take (HT.sIx (x :: r).length (x :: r).length none - HT.sIx (x :: r).length 0 (some 1)) = r := by
  have e : HT.sIx (x :: r).length 0 (some 1) = 1 := by
    rw [show (1 : Int) = ((1 : Nat) : Int) from rfl, HT.sIx_nat]
    simp
  rw [e, HT.sIx_none]
  simp
theorem r_slcT {x : D} {r : List D} (q : Φ (.tup r) μ) : slcQ (.tup (x :: r)) (some 1) none μ Φ := by
  unfold slcQ deref
  dsimp only
  rw [slc1]
  exact ⟨fun e => by have := congrArg List.length e; simp at this, q⟩
theorem r_slcL {x : D} {r : List D} (q : Φ (.list r) μ) : slcQ (.list (x :: r)) (some 1) none μ Φ := by
  unfold slcQ deref
  dsimp only
  rw [slc1]
  exact q
theorem r_slcS {s : Str} {l h : Option Int} (hs : s.length ≤ sizeLine) (q : Φ (.str (cutS s l h)) μ) : slcQ (.str s) l h μ Φ := ⟨hs, q⟩
theorem r_bmS {m : Bool} {s : Str} {P : Prop} (q : P) : bmTy (.split m) μ (.str s) ∧ P := ⟨trivial, q⟩
theorem r_bmJ {s : Str} {P : Prop} (q : P) : bmTy .join μ (.str s) ∧ P := ⟨trivial, q⟩
theorem r_bmR {s : Str} {P : Prop} (q : P) : bmTy .removep μ (.str s) ∧ P := ⟨trivial, q⟩
theorem r_split_z {m : Bool} {s b : Str} (h : (b.length == 0) = false) (h2 : s.length + 2 ≤ sizeLine) (q : newL m ((Txt.split s b).map .str) μ Φ) : bmS (.split m) (.str s) [.str b] μ Φ := ⟨h, h2, q⟩
theorem r_split {m : Bool} {s b : Str} (h : (b.length == 0) = false) (h2 : s.length + 2 ≤ sizeLine) (q : xnewL m ((Txt.split s b).map .str) μ Φ) : xbmS (.split m) (.str s) [.str b] μ Φ := by with_unfolding_all exact r_split_z h h2 q
theorem allStr_map : ∀ {ys : List Str}, allStr (ys.map .str) = some ys
  | [] => rfl
  | y :: ys => by show (allStr (ys.map D.str)).map (y :: ·) = _; rw [allStr_map]; rfl
theorem r_join_z {s : Str} {ds : List D} {ys : List Str} (h : seqOf μ x = some ds) (h2 : allStr ds = some ys) (h3 : (ys.map (·.length)).sum + ys.length * s.length ≤ 16777216) (q : Φ (.str (Txt.join s ys)) μ) : bmS .join (.str s) [x] μ Φ := by
  unfold bmS; dsimp only; rw [h]; simp only [Option.bind_some]; rw [h2]; exact ⟨h3, q⟩
theorem r_join {s : Str} {ds : List D} {ys : List Str} (h : seqOf μ x = some ds) (h2 : allStr ds = some ys) (h3 : (ys.map (·.length)).sum + ys.length * s.length ≤ 16777216) (q : Φ (.str (Txt.join s ys)) μ) : xbmS .join (.str s) [x] μ Φ := by with_unfolding_all exact r_join_z h h2 h3 q
theorem r_removep_z {s b : Str} (h : s.length ≤ sizeLine) (q : Φ (.str (Txt.removeprefix s b)) μ) : bmS .removep (.str s) [.str b] μ Φ := ⟨h, q⟩
theorem r_removep {s b : Str} (h : s.length ≤ sizeLine) (q : Φ (.str (Txt.removeprefix s b)) μ) : xbmS .removep (.str s) [.str b] μ Φ := by with_unfolding_all exact r_removep_z h q
theorem r_ono_z {Φ : Option Int → Mem → Prop} (q : Φ none μ) : wO T call .no ρ μ Φ Ψ := q
theorem r_ono {Φ : Option Int → Mem → Prop} (q : Φ none μ) : xO T call .no ρ μ Φ Ψ := by with_unfolding_all exact r_ono_z q
theorem r_osome_z {Φ : Option Int → Mem → Prop} (q : wE T call e ρ μ (fun d μ1 => intQO d μ1 Φ) Ψ) : wO T call (.some e) ρ μ Φ Ψ := q
theorem r_osome {Φ : Option Int → Mem → Prop} (q : xE T call e ρ μ (fun d μ1 => intQO d μ1 Φ) Ψ) : xO T call (.some e) ρ μ Φ Ψ := by with_unfolding_all exact r_osome_z q
theorem r_frz_z (q : wE T call e ρ μ (fun d μ1 => frz d μ1 Φ) Ψ) : wE T call (.frz e) ρ μ Φ Ψ := q
theorem r_frz (q : xE T call e ρ μ (fun d μ1 => frz d μ1 Φ) Ψ) : xE T call (.frz e) ρ μ Φ Ψ := by with_unfolding_all exact r_frz_z q
theorem r_frzL {p : Addr} {ds : List D} {Φ : AQ} (h : μ p = some (.lst ds)) (q : Φ (.list ds) (mdel μ p)) : frz (.ref p) μ Φ := by
  unfold frz; dsimp only; rw [h]; exact q
theorem r_es0_z {Φ : List D → Mem → Prop} (q : Φ [] μ) : wEs T call .nil ρ μ Φ Ψ := q
theorem r_es0 {Φ : List D → Mem → Prop} (q : Φ [] μ) : xEs T call .nil ρ μ Φ Ψ := by with_unfolding_all exact r_es0_z q
theorem r_es_z {Φ : List D → Mem → Prop} (q : wE T call e ρ μ (fun d μ1 => wEs T call es ρ μ1 (fun ds μ2 => Φ (d :: ds) μ2) Ψ) Ψ) : wEs T call (.cons e es) ρ μ Φ Ψ := q
theorem r_es {Φ : List D → Mem → Prop} (q : xE T call e ρ μ (fun d μ1 => xEs T call es ρ μ1 (fun ds μ2 => Φ (d :: ds) μ2) Ψ) Ψ) : xEs T call (.cons e es) ρ μ Φ Ψ := by with_unfolding_all exact r_es_z q
theorem r_ts0_z {Φ : Bool → Mem → Prop} (q : Φ true μ) : wTs T call .nil ρ μ Φ Ψ := q
theorem r_ts0 {Φ : Bool → Mem → Prop} (q : Φ true μ) : xTs T call .nil ρ μ Φ Ψ := by with_unfolding_all exact r_ts0_z q
theorem r_ts1_z {Φ : Bool → Mem → Prop} (q : wE T call e ρ μ (fun d μ1 => tQ d μ1 Φ) Ψ) : wTs T call (.cons e .nil) ρ μ Φ Ψ := q
theorem r_ts1 {Φ : Bool → Mem → Prop} (q : xE T call e ρ μ (fun d μ1 => tQ d μ1 Φ) Ψ) : xTs T call (.cons e .nil) ρ μ Φ Ψ := by with_unfolding_all exact r_ts1_z q
/-! operators -/
theorem b_add_z {m : Bool} {i j : Int} (q : Φ (.int (i + j)) μ) : binS m .Add (.int i) (.int j) μ Φ := q
theorem b_add {m : Bool} {i j : Int} (q : Φ (.int (i + j)) μ) : xbinS m .Add (.int i) (.int j) μ Φ := by with_unfolding_all exact b_add_z q
theorem b_sub_z {m : Bool} {i j : Int} (q : Φ (.int (i - j)) μ) : binS m .Sub (.int i) (.int j) μ Φ := q
theorem b_sub {m : Bool} {i j : Int} (q : Φ (.int (i - j)) μ) : xbinS m .Sub (.int i) (.int j) μ Φ := by with_unfolding_all exact b_sub_z q
theorem b_mul_z {m : Bool} {i j : Int} (h : CMul i j) (q : Φ (.int (i * j)) μ) : binS m .Mult (.int i) (.int j) μ Φ := ⟨h, q⟩
theorem b_mul {m : Bool} {i j : Int} (h : CMul i j) (q : Φ (.int (i * j)) μ) : xbinS m .Mult (.int i) (.int j) μ Φ := by with_unfolding_all exact b_mul_z h q
theorem b_mulS_z {m : Bool} {s : Str} {j : Int} (h : s.length ≤ 1000 ∧ 0 ≤ j ∧ j ≤ 1000) (q : Φ (.str (Txt.mul s j)) μ) : binS m .Mult (.str s) (.int j) μ Φ := ⟨h, q⟩
theorem b_mulS {m : Bool} {s : Str} {j : Int} (h : s.length ≤ 1000 ∧ 0 ≤ j ∧ j ≤ 1000) (q : Φ (.str (Txt.mul s j)) μ) : xbinS m .Mult (.str s) (.int j) μ Φ := by with_unfolding_all exact b_mulS_z h q
theorem b_div_z {m : Bool} {i j : Int} (h : CDivX i j) (q : Φ (.int (i / j)) μ) : binS m .FloorDiv (.int i) (.int j) μ Φ := ⟨h, q⟩
theorem b_div {m : Bool} {i j : Int} (h : CDivX i j) (q : Φ (.int (i / j)) μ) : xbinS m .FloorDiv (.int i) (.int j) μ Φ := by with_unfolding_all exact b_div_z h q
theorem b_mod_z {m : Bool} {i j : Int} (h : 0 < j) (q : Φ (.int (i % j)) μ) : binS m .Mod (.int i) (.int j) μ Φ := ⟨h, q⟩
theorem b_mod {m : Bool} {i j : Int} (h : 0 < j) (q : Φ (.int (i % j)) μ) : xbinS m .Mod (.int i) (.int j) μ Φ := by with_unfolding_all exact b_mod_z h q
theorem b_pow_z {m : Bool} {i j : Int} (h : CPow i j) (q : Φ (.int (i ^ j.toNat)) μ) : binS m .Pow (.int i) (.int j) μ Φ := ⟨h, q⟩
theorem b_pow {m : Bool} {i j : Int} (h : CPow i j) (q : Φ (.int (i ^ j.toNat)) μ) : xbinS m .Pow (.int i) (.int j) μ Φ := by with_unfolding_all exact b_pow_z h q
theorem b_str_z {m : Bool} {i j : Str} (h : i.length + j.length ≤ sizeLine) (q : Φ (.str (i ++ j)) μ) : binS m .Add (.str i) (.str j) μ Φ := ⟨h, q⟩
theorem b_str {m : Bool} {i j : Str} (h : i.length + j.length ≤ sizeLine) (q : Φ (.str (i ++ j)) μ) : xbinS m .Add (.str i) (.str j) μ Φ := by with_unfolding_all exact b_str_z h q
theorem b_lstL_z {m : Bool} {xs ys : List D} (h : xs.length + ys.length ≤ sizeLine) (q : newL m (xs ++ ys) μ Φ) : binS m .Add (.list xs) (.list ys) μ Φ := ⟨h, q⟩
theorem b_lstL {m : Bool} {xs ys : List D} (h : xs.length + ys.length ≤ sizeLine) (q : xnewL m (xs ++ ys) μ Φ) : xbinS m .Add (.list xs) (.list ys) μ Φ := by with_unfolding_all exact b_lstL_z h q
theorem b_lstR_z {m : Bool} {p : Addr} {xs ys : List D} (hp : μ p = some (.lst xs)) (h : xs.length + ys.length ≤ sizeLine) (q : newL m (xs ++ ys) μ Φ) : binS m .Add (.ref p) (.list ys) μ Φ := by
  unfold binS
  dsimp only
  have e : deref μ (.ref p) = .list xs := by unfold deref; dsimp only; rw [hp]
  rw [e]
  exact ⟨h, q⟩
theorem b_lstR {m : Bool} {p : Addr} {xs ys : List D} (hp : μ p = some (.lst xs)) (h : xs.length + ys.length ≤ sizeLine) (q : xnewL m (xs ++ ys) μ Φ) : xbinS m .Add (.ref p) (.list ys) μ Φ := by with_unfolding_all exact b_lstR_z hp h q
theorem b_tupT_z {m : Bool} {xs ys : List D} (h0 : xs.isEmpty = false) (h : xs.length + ys.length ≤ sizeLine) (q : Φ (.tup (xs ++ ys)) μ) : binS m .Add (.tup xs) (.tup ys) μ Φ := ⟨ne_of_isE h0, h, q⟩
theorem b_tupT {m : Bool} {xs ys : List D} (h0 : xs.isEmpty = false) (h : xs.length + ys.length ≤ sizeLine) (q : Φ (.tup (xs ++ ys)) μ) : xbinS m .Add (.tup xs) (.tup ys) μ Φ := by with_unfolding_all exact b_tupT_z h0 h q
theorem b_lstLR_z {m : Bool} {p : Addr} {xs ys : List D} (hp : μ p = some (.lst ys)) (h : xs.length + ys.length ≤ sizeLine) (q : newL m (xs ++ ys) μ Φ) : binS m .Add (.list xs) (.ref p) μ Φ := by
  unfold binS
  dsimp only
  have e : deref μ (.ref p) = .list ys := by unfold deref; dsimp only; rw [hp]
  rw [e]
  exact ⟨h, q⟩
theorem b_lstLR {m : Bool} {p : Addr} {xs ys : List D} (hp : μ p = some (.lst ys)) (h : xs.length + ys.length ≤ sizeLine) (q : xnewL m (xs ++ ys) μ Φ) : xbinS m .Add (.list xs) (.ref p) μ Φ := by with_unfolding_all exact b_lstLR_z hp h q
theorem n_f_z {ds : List D} (q : Φ (.list ds) μ) : newL false ds μ Φ := q
theorem n_f {ds : List D} (q : Φ (.list ds) μ) : xnewL false ds μ Φ := by with_unfolding_all exact n_f_z q
theorem n_t_z {ds : List D} (q : ∀ p, μ p = none → Φ (.ref p) (mset μ p (.lst ds))) : newL true ds μ Φ := q
theorem n_t {ds : List D} (q : ∀ p, μ p = none → Φ (.ref p) (mset μ p (.lst ds))) : xnewL true ds μ Φ := by with_unfolding_all exact n_t_z q
theorem n_kf_z {kvs : List (Key × D)} (q : Φ (.dict (kvs.map (·.1)) (kvs.map (·.2))) μ) : newK false kvs μ Φ := q
theorem n_kf {kvs : List (Key × D)} (q : Φ (.dict (kvs.map (·.1)) (kvs.map (·.2))) μ) : xnewK false kvs μ Φ := by with_unfolding_all exact n_kf_z q
theorem n_kt_z {kvs : List (Key × D)} (q : ∀ p, μ p = none → Φ (.ref p) (mset μ p (.dK (kvs.map (·.1)) (kvs.map (·.2))))) : newK true kvs μ Φ := q
theorem n_kt {kvs : List (Key × D)} (q : ∀ p, μ p = none → Φ (.ref p) (mset μ p (.dK (kvs.map (·.1)) (kvs.map (·.2))))) : xnewK true kvs μ Φ := by with_unfolding_all exact n_kt_z q
theorem c_int_z {op : CmpOp} {i : Int} (q : cmpS op (.int i) y μ Φ) : cmpC T call op (.int i) y μ Φ Ψ := by cases op <;> exact q
theorem c_int {op : CmpOp} {i : Int} (q : xcmpS op (.int i) y μ Φ) : xcmpC T call op (.int i) y μ Φ Ψ := by with_unfolding_all exact c_int_z q
theorem c_str_z {op : CmpOp} {i : Str} (q : cmpS op (.str i) y μ Φ) : cmpC T call op (.str i) y μ Φ Ψ := by cases op <;> exact q
theorem c_str {op : CmpOp} {i : Str} (q : xcmpS op (.str i) y μ Φ) : xcmpC T call op (.str i) y μ Φ Ψ := by with_unfolding_all exact c_str_z q
theorem c_non_z {op : CmpOp} (q : cmpS op .non y μ Φ) : cmpC T call op .non y μ Φ Ψ := by cases op <;> exact q
theorem c_non {op : CmpOp} (q : xcmpS op .non y μ Φ) : xcmpC T call op .non y μ Φ Ψ := by with_unfolding_all exact c_non_z q
theorem c_bl_z {op : CmpOp} {i : Bool} (q : cmpS op (.bl i) y μ Φ) : cmpC T call op (.bl i) y μ Φ Ψ := by cases op <;> exact q
theorem c_bl {op : CmpOp} {i : Bool} (q : xcmpS op (.bl i) y μ Φ) : xcmpC T call op (.bl i) y μ Φ Ψ := by with_unfolding_all exact c_bl_z q
theorem c_tup_z {op : CmpOp} {i : List D} (q : cmpS op (.tup i) y μ Φ) : cmpC T call op (.tup i) y μ Φ Ψ := by cases op <;> exact q
theorem c_tup {op : CmpOp} {i : List D} (q : xcmpS op (.tup i) y μ Φ) : xcmpC T call op (.tup i) y μ Φ Ψ := by with_unfolding_all exact c_tup_z q
theorem c_list_z {op : CmpOp} {i : List D} (q : cmpS op (.list i) y μ Φ) : cmpC T call op (.list i) y μ Φ Ψ := by cases op <;> exact q
theorem c_list {op : CmpOp} {i : List D} (q : xcmpS op (.list i) y μ Φ) : xcmpC T call op (.list i) y μ Φ Ψ := by with_unfolding_all exact c_list_z q
theorem c_ro_z {op : CmpOp} {i : List D} (q : cmpS op (.ro i) y μ Φ) : cmpC T call op (.ro i) y μ Φ Ψ := by cases op <;> exact q
theorem c_ro {op : CmpOp} {i : List D} (q : xcmpS op (.ro i) y μ Φ) : xcmpC T call op (.ro i) y μ Φ Ψ := by with_unfolding_all exact c_ro_z q
theorem c_refL_z {op : CmpOp} {p : Addr} {ds : List D} (h : μ p = some (.lst ds)) (q : cmpS op (.ref p) y μ Φ) : cmpC T call op (.ref p) y μ Φ Ψ := by
  cases op <;> first
    | exact q
    | (unfold cmpC; dsimp only; rw [h]; exact q)
theorem c_refL {op : CmpOp} {p : Addr} {ds : List D} (h : μ p = some (.lst ds)) (q : xcmpS op (.ref p) y μ Φ) : xcmpC T call op (.ref p) y μ Φ Ψ := by with_unfolding_all exact c_refL_z h q
theorem c_eqO_z {p : Addr} {c f : Nat} {fs : List (Nat × D)} (h : μ p = some (.ins c fs)) (h2 : T.eqF c = some f) (h3 : eqOk T μ y) (q : call f [.ref p, y] μ (fun r μ' => ∃ b, r = .bl b ∧ Φ (.bl b) μ') Ψ) : cmpC T call .Eq (.ref p) y μ Φ Ψ := by
  unfold cmpC; dsimp only; rw [h]; dsimp only; rw [h2]; exact ⟨h3, q⟩
theorem c_eqO {p : Addr} {c f : Nat} {fs : List (Nat × D)} (h : μ p = some (.ins c fs)) (h2 : T.eqF c = some f) (h3 : eqOk T μ y) (q : call f [.ref p, y] μ (fun r μ' => ∃ b, r = .bl b ∧ Φ (.bl b) μ') Ψ) : xcmpC T call .Eq (.ref p) y μ Φ Ψ := by with_unfolding_all exact c_eqO_z h h2 h3 q
theorem c_neO_z {p : Addr} {c f : Nat} {fs : List (Nat × D)} (h : μ p = some (.ins c fs)) (h2 : T.eqF c = some f) (h3 : eqOk T μ y) (q : call f [.ref p, y] μ (fun r μ' => ∃ b, r = .bl b ∧ Φ (.bl (!b)) μ') Ψ) : cmpC T call .NotEq (.ref p) y μ Φ Ψ := by
  unfold cmpC; dsimp only; rw [h]; dsimp only; rw [h2]; exact ⟨h3, q⟩
theorem c_neO {p : Addr} {c f : Nat} {fs : List (Nat × D)} (h : μ p = some (.ins c fs)) (h2 : T.eqF c = some f) (h3 : eqOk T μ y) (q : call f [.ref p, y] μ (fun r μ' => ∃ b, r = .bl b ∧ Φ (.bl (!b)) μ') Ψ) : xcmpC T call .NotEq (.ref p) y μ Φ Ψ := by with_unfolding_all exact c_neO_z h h2 h3 q
theorem s_lt_z {i j : Int} (q : Φ (.bl (decide (i < j))) μ) : cmpS .Lt (.int i) (.int j) μ Φ := q
theorem s_lt {i j : Int} (q : Φ (.bl (decide (i < j))) μ) : xcmpS .Lt (.int i) (.int j) μ Φ := by with_unfolding_all exact s_lt_z q
theorem s_le_z {i j : Int} (q : Φ (.bl (decide (i ≤ j))) μ) : cmpS .LtE (.int i) (.int j) μ Φ := q
theorem s_le {i j : Int} (q : Φ (.bl (decide (i ≤ j))) μ) : xcmpS .LtE (.int i) (.int j) μ Φ := by with_unfolding_all exact s_le_z q
theorem s_gt_z {i j : Int} (q : Φ (.bl (decide (j < i))) μ) : cmpS .Gt (.int i) (.int j) μ Φ := q
theorem s_gt {i j : Int} (q : Φ (.bl (decide (j < i))) μ) : xcmpS .Gt (.int i) (.int j) μ Φ := by with_unfolding_all exact s_gt_z q
theorem s_ge_z {i j : Int} (q : Φ (.bl (decide (j ≤ i))) μ) : cmpS .GtE (.int i) (.int j) μ Φ := q
theorem s_ge {i j : Int} (q : Φ (.bl (decide (j ≤ i))) μ) : xcmpS .GtE (.int i) (.int j) μ Φ := by with_unfolding_all exact s_ge_z q
theorem s_eq_z {i j : Int} (q : Φ (.bl (decide (i = j))) μ) : cmpS .Eq (.int i) (.int j) μ Φ := q
theorem s_eq {i j : Int} (q : Φ (.bl (decide (i = j))) μ) : xcmpS .Eq (.int i) (.int j) μ Φ := by with_unfolding_all exact s_eq_z q
theorem s_ne_z {i j : Int} (q : Φ (.bl (!decide (i = j))) μ) : cmpS .NotEq (.int i) (.int j) μ Φ := q
theorem s_ne {i j : Int} (q : Φ (.bl (!decide (i = j))) μ) : xcmpS .NotEq (.int i) (.int j) μ Φ := by with_unfolding_all exact s_ne_z q
theorem s_eqs_z {i j : Str} (q : Φ (.bl (decide (i = j))) μ) : cmpS .Eq (.str i) (.str j) μ Φ := q
theorem s_eqs {i j : Str} (q : Φ (.bl (decide (i = j))) μ) : xcmpS .Eq (.str i) (.str j) μ Φ := by with_unfolding_all exact s_eqs_z q
theorem s_nes_z {i j : Str} (q : Φ (.bl (!decide (i = j))) μ) : cmpS .NotEq (.str i) (.str j) μ Φ := q
theorem s_nes {i j : Str} (q : Φ (.bl (!decide (i = j))) μ) : xcmpS .NotEq (.str i) (.str j) μ Φ := by with_unfolding_all exact s_nes_z q
theorem s_is_z (q : Φ (.bl (isNon x)) μ) : cmpS .Is x .non μ Φ := by cases x <;> exact q
theorem s_is (q : Φ (.bl (isNon x)) μ) : xcmpS .Is x .non μ Φ := by with_unfolding_all exact s_is_z q
theorem s_isn_z (q : Φ (.bl (!isNon x)) μ) : cmpS .IsNot x .non μ Φ := by cases x <;> exact q
theorem s_isn (q : Φ (.bl (!isNon x)) μ) : xcmpS .IsNot x .non μ Φ := by with_unfolding_all exact s_isn_z q
theorem s_isb_z {i j : Bool} (q : Φ (.bl (decide (i = j))) μ) : cmpS .Is (.bl i) (.bl j) μ Φ := q
theorem s_isb {i j : Bool} (q : Φ (.bl (decide (i = j))) μ) : xcmpS .Is (.bl i) (.bl j) μ Φ := by with_unfolding_all exact s_isb_z q
theorem s_isnb_z {i j : Bool} (q : Φ (.bl (!decide (i = j))) μ) : cmpS .IsNot (.bl i) (.bl j) μ Φ := q
theorem s_isnb {i j : Bool} (q : Φ (.bl (!decide (i = j))) μ) : xcmpS .IsNot (.bl i) (.bl j) μ Φ := by with_unfolding_all exact s_isnb_z q
theorem s_in_z {kvs : List (Key × D)} {k : Key} (h : dicOf μ y = some kvs) (h2 : keyD x = some k) (q : Φ (.bl (kLook kvs k).isSome) μ) : cmpS .In x y μ Φ := by
  cases x <;> (unfold cmpS; dsimp only; rw [h, h2]; exact q)
theorem s_in {kvs : List (Key × D)} {k : Key} (h : dicOf μ y = some kvs) (h2 : keyD x = some k) (q : Φ (.bl (kLook kvs k).isSome) μ) : xcmpS .In x y μ Φ := by with_unfolding_all exact s_in_z h h2 q
theorem s_nin_z {kvs : List (Key × D)} {k : Key} (h : dicOf μ y = some kvs) (h2 : keyD x = some k) (q : Φ (.bl (!(kLook kvs k).isSome)) μ) : cmpS .NotIn x y μ Φ := by
  cases x <;> (unfold cmpS; dsimp only; rw [h, h2]; exact q)
theorem s_nin {kvs : List (Key × D)} {k : Key} (h : dicOf μ y = some kvs) (h2 : keyD x = some k) (q : Φ (.bl (!(kLook kvs k).isSome)) μ) : xcmpS .NotIn x y μ Φ := by with_unfolding_all exact s_nin_z h h2 q
theorem s_inT_z {ds : List D} {d : PyData} {es : List PyData} (h1 : (deref μ x).py = some d) (h2 : D.pyL ds = some es) (h3 : d.depth ≤ 60) (h4 : SeqAt.shaped d = true) (h5 : SeqAt.shaped (.list es) = true) (q : Φ (.bl (es.any fun z => PyData.eqv z d)) μ) : cmpS .In x (.tup ds) μ Φ := by
  have e : (deref μ (.tup ds)).py = some (.tuple es) := by show (D.pyL ds).map PyData.tuple = _; rw [h2]; rfl
  have z : inL x (.tup ds) μ fun b => Φ (.bl b) μ := by
    cases x <;> exact ⟨d, es, h1, .inr e, h3, h4, h5, q⟩
  cases x <;> exact z
theorem s_inT {ds : List D} {d : PyData} {es : List PyData} (h1 : (deref μ x).py = some d) (h2 : D.pyL ds = some es) (h3 : d.depth ≤ 60) (h4 : SeqAt.shaped d = true) (h5 : SeqAt.shaped (.list es) = true) (q : Φ (.bl (es.any fun z => PyData.eqv z d)) μ) : xcmpS .In x (.tup ds) μ Φ := by with_unfolding_all exact s_inT_z h1 h2 h3 h4 h5 q
/-- a tuple, of lists that may change too, and a text -/
theorem s_neTS_z {ds : List D} {z : Str} {ps : List PyData} (h : (derefT μ (.tup ds)).py = some (.tuple ps)) (h1 : SeqAt.shaped (.tuple ps) = true) (h2 : SeqAt.shaped (.str z) = true) (q : Φ (.bl true) μ) : cmpS .NotEq (.tup ds) (.str z) μ Φ := ⟨.tuple ps, .str z, h, rfl, h1, h2, q⟩
theorem s_neTS {ds : List D} {z : Str} {ps : List PyData} (h : (derefT μ (.tup ds)).py = some (.tuple ps)) (h1 : SeqAt.shaped (.tuple ps) = true) (h2 : SeqAt.shaped (.str z) = true) (q : Φ (.bl true) μ) : xcmpS .NotEq (.tup ds) (.str z) μ Φ := by with_unfolding_all exact s_neTS_z h h1 h2 q
theorem s_eqT_z {ds : List D} {p e : PyData} (h : (derefT μ (.tup ds)).py = some p) (h0 : (derefT μ y).py = some e) (h1 : SeqAt.shaped p = true) (h2 : SeqAt.shaped e = true) (q : Φ (.bl (PyData.eqv p e)) μ) : cmpS .Eq (.tup ds) y μ Φ := by
  cases y <;> exact ⟨p, e, h, h0, h1, h2, q⟩
theorem s_eqT {ds : List D} {p e : PyData} (h : (derefT μ (.tup ds)).py = some p) (h0 : (derefT μ y).py = some e) (h1 : SeqAt.shaped p = true) (h2 : SeqAt.shaped e = true) (q : Φ (.bl (PyData.eqv p e)) μ) : xcmpS .Eq (.tup ds) y μ Φ := by with_unfolding_all exact s_eqT_z h h0 h1 h2 q
theorem s_neT_z {ds : List D} {p e : PyData} (h : (derefT μ (.tup ds)).py = some p) (h0 : (derefT μ y).py = some e) (h1 : SeqAt.shaped p = true) (h2 : SeqAt.shaped e = true) (q : Φ (.bl (!PyData.eqv p e)) μ) : cmpS .NotEq (.tup ds) y μ Φ := by
  cases y <;> exact ⟨p, e, h, h0, h1, h2, q⟩
theorem s_neT {ds : List D} {p e : PyData} (h : (derefT μ (.tup ds)).py = some p) (h0 : (derefT μ y).py = some e) (h1 : SeqAt.shaped p = true) (h2 : SeqAt.shaped e = true) (q : Φ (.bl (!PyData.eqv p e)) μ) : xcmpS .NotEq (.tup ds) y μ Φ := by with_unfolding_all exact s_neT_z h h0 h1 h2 q
theorem s_inS_z {c : Nat} {j : Str} (q : Φ (.bl (decide (c ∈ j.cps.toList))) μ) : cmpS .In (.str ⟨#[c]⟩) (.str j) μ Φ := ⟨rfl, q⟩
theorem s_inS {c : Nat} {j : Str} (q : Φ (.bl (decide (c ∈ j.cps.toList))) μ) : xcmpS .In (.str ⟨#[c]⟩) (.str j) μ Φ := by with_unfolding_all exact s_inS_z q
theorem s_ninS_z {c : Nat} {j : Str} (q : Φ (.bl (!decide (c ∈ j.cps.toList))) μ) : cmpS .NotIn (.str ⟨#[c]⟩) (.str j) μ Φ := ⟨rfl, q⟩
theorem s_ninS {c : Nat} {j : Str} (q : Φ (.bl (!decide (c ∈ j.cps.toList))) μ) : xcmpS .NotIn (.str ⟨#[c]⟩) (.str j) μ Φ := by with_unfolding_all exact s_ninS_z q
/-- x in a list of data -/
theorem s_inL_z {ds : List D} {d : PyData} {es : List PyData} (h1 : (deref μ x).py = some d) (h2 : D.pyL ds = some es) (h3 : d.depth ≤ 60) (h4 : SeqAt.shaped d = true) (h5 : SeqAt.shaped (.list es) = true) (q : Φ (.bl (es.any fun z => PyData.eqv z d)) μ) : cmpS .In x (.list ds) μ Φ := by
  have e : (deref μ (.list ds)).py = some (.list es) := by show (D.pyL ds).map PyData.list = _; rw [h2]; rfl
  have z : inL x (.list ds) μ fun b => Φ (.bl b) μ := by
    cases x <;> exact ⟨d, es, h1, .inl e, h3, h4, h5, q⟩
  cases x <;> exact z
theorem s_inL {ds : List D} {d : PyData} {es : List PyData} (h1 : (deref μ x).py = some d) (h2 : D.pyL ds = some es) (h3 : d.depth ≤ 60) (h4 : SeqAt.shaped d = true) (h5 : SeqAt.shaped (.list es) = true) (q : Φ (.bl (es.any fun z => PyData.eqv z d)) μ) : xcmpS .In x (.list ds) μ Φ := by with_unfolding_all exact s_inL_z h1 h2 h3 h4 h5 q
theorem u_seq_z {ds : List D} {n : Int} (h : seqOf μ x = some ds) (h2 : atI ds n = some d) (q : Φ d μ) : subS x (.int n) μ Φ := by
  unfold subS; rw [h]; dsimp only; rw [h2]; exact q
theorem u_seq {ds : List D} {n : Int} (h : seqOf μ x = some ds) (h2 : atI ds n = some d) (q : Φ d μ) : xsubS x (.int n) μ Φ := by with_unfolding_all exact u_seq_z h h2 q
theorem at0 {x : D} {t : List D} : atI (x :: t) 0 = some x := by
  unfold atI ixN
  rw [if_pos (by decide), if_pos (by simp <;> omega)]
  rfl
theorem at1 {x y : D} {t : List D} : atI (x :: y :: t) 1 = some y := by
  unfold atI ixN
  rw [if_pos (by decide), if_pos (by simp <;> omega)]
  rfl
theorem at2 {x y z : D} {t : List D} : atI (x :: y :: z :: t) 2 = some z := by
  unfold atI ixN
  rw [if_pos (by decide), if_pos (by simp <;> omega)]
  rfl
theorem u_str_z {s : Str} {j : Int} {c : Nat} (h : s.length ≤ sizeLine) (h2 : atI s.cps.toList j = some c) (q : Φ (.str ⟨#[c]⟩) μ) : subS (.str s) (.int j) μ Φ := by
  unfold subS
  show s.length ≤ sizeLine ∧ (match atI s.cps.toList j with
        | some c => Φ (.str ⟨#[c]⟩) μ
        | none => False)
  rw [h2]
  exact ⟨h, q⟩
theorem u_str {s : Str} {j : Int} {c : Nat} (h : s.length ≤ sizeLine) (h2 : atI s.cps.toList j = some c) (q : Φ (.str ⟨#[c]⟩) μ) : xsubS (.str s) (.int j) μ Φ := by with_unfolding_all exact u_str_z h h2 q
theorem u_dicS_z {kvs : List (Key × D)} {w : Str} (h : dicOf μ x = some kvs) (h2 : kLook kvs (.inr w) = some d) (q : Φ d μ) : subS x (.str w) μ Φ := by
  unfold subS
  cases seqOf μ x with
  | none => dsimp only; rw [h]; simp only [keyD, h2]; exact q
  | some ds => dsimp only; rw [h]; simp only [keyD, h2]; exact q
theorem u_dicS {kvs : List (Key × D)} {w : Str} (h : dicOf μ x = some kvs) (h2 : kLook kvs (.inr w) = some d) (q : Φ d μ) : xsubS x (.str w) μ Φ := by with_unfolding_all exact u_dicS_z h h2 q
theorem sq_list {ds : List D} : seqOf μ (.list ds) = some ds := rfl
theorem sq_ro {ds : List D} : seqOf μ (.ro ds) = some ds := rfl
theorem sq_tup {ds : List D} : seqOf μ (.tup ds) = some ds := rfl
theorem sq_ref {p : Addr} {ds : List D} (h : μ p = some (.lst ds)) : seqOf μ (.ref p) = some ds := by
  unfold seqOf deref; dsimp only; rw [h]
theorem ls_ref {p : Addr} {ds : List D} (h : μ p = some (.lst ds)) : lstOf μ (.ref p) = some ds := by
  unfold lstOf deref; dsimp only; rw [h]
theorem de_ref {p : Addr} {ds : List D} (h : μ p = some (.lst ds)) : deref μ (.ref p) = .list ds := by
  unfold deref; dsimp only; rw [h]
theorem dk_ref {p : Addr} {ks : List Key} {ds : List D} (h : μ p = some (.dK ks ds)) : dicOf μ (.ref p) = some (ks.zip ds) := by
  unfold dicOf; dsimp only; rw [h]
/-! built-ins -/
theorem f_lenS_z {s : Str} (h : s.length ≤ sizeLine) (q : Φ (.int s.length) μ) : bfS .len [.str s] μ Φ := ⟨h, q⟩
theorem f_lenS {s : Str} (h : s.length ≤ sizeLine) (q : Φ (.int s.length) μ) : xbfS .len [.str s] μ Φ := by with_unfolding_all exact f_lenS_z h q
theorem f_len_z {ds : List D} (h : seqOf μ x = some ds) (q : Φ (.int ds.length) μ) : bfS .len [x] μ Φ := by
  cases x <;> first
    | (cases h; done)
    | (unfold bfS; dsimp only; rw [h]; exact q)
theorem f_len {ds : List D} (h : seqOf μ x = some ds) (q : Φ (.int ds.length) μ) : xbfS .len [x] μ Φ := by with_unfolding_all exact f_len_z h q
theorem f_min_z {i j : Int} (q : Φ (.int (if j < i then j else i)) μ) : bfS .min2 [.int i, .int j] μ Φ := q
theorem f_min {i j : Int} (q : Φ (.int (if j < i then j else i)) μ) : xbfS .min2 [.int i, .int j] μ Φ := by with_unfolding_all exact f_min_z q
theorem f_max_z {i j : Int} (q : Φ (.int (if j > i then j else i)) μ) : bfS .max2 [.int i, .int j] μ Φ := q
theorem f_max {i j : Int} (q : Φ (.int (if j > i then j else i)) μ) : xbfS .max2 [.int i, .int j] μ Φ := by with_unfolding_all exact f_max_z q
theorem f_abs_z {i : Int} (q : Φ (.int (if i < 0 then -i else i)) μ) : bfS .abs [.int i] μ Φ := q
theorem f_abs {i : Int} (q : Φ (.int (if i < 0 then -i else i)) μ) : xbfS .abs [.int i] μ Φ := by with_unfolding_all exact f_abs_z q
theorem f_divmod_z {i j : Int} (h : CDivX i j) (q : Φ (.tup [.int (i / j), .int (i % j)]) μ) : bfS .divmod [.int i, .int j] μ Φ := ⟨h, q⟩
theorem f_divmod {i j : Int} (h : CDivX i j) (q : Φ (.tup [.int (i / j), .int (i % j)]) μ) : xbfS .divmod [.int i, .int j] μ Φ := by with_unfolding_all exact f_divmod_z h q
theorem f_int_z {i : Int} (q : Φ (.int i) μ) : bfS .int1 [.int i] μ Φ := q
theorem f_int {i : Int} (q : Φ (.int i) μ) : xbfS .int1 [.int i] μ Φ := by with_unfolding_all exact f_int_z q
theorem f_intb_z {i : Bool} (q : Φ (.int (if i then 1 else 0)) μ) : bfS .int1 [.bl i] μ Φ := q
theorem f_intb {i : Bool} (q : Φ (.int (if i then 1 else 0)) μ) : xbfS .int1 [.bl i] μ Φ := by with_unfolding_all exact f_intb_z q
theorem f_intS_z {a : Str} {n : Int} (h : PySem.intText? a = some n) (h2 : a.length ≤ 640) (q : Φ (.int n) μ) : bfS .int1 [.str a] μ Φ := by
  unfold bfS; dsimp only; rw [h]; exact ⟨h2, q⟩
theorem f_intS {a : Str} {n : Int} (h : PySem.intText? a = some n) (h2 : a.length ≤ 640) (q : Φ (.int n) μ) : xbfS .int1 [.str a] μ Φ := by with_unfolding_all exact f_intS_z h h2 q
theorem f_strS_z {a : Str} (q : Φ (.str a) μ) : bfS .str1 [.str a] μ Φ := q
theorem f_strS {a : Str} (q : Φ (.str a) μ) : xbfS .str1 [.str a] μ Φ := by with_unfolding_all exact f_strS_z q
theorem f_str_z {i : Int} (h : i.natAbs.log2 < 1920) (q : Φ (.str (toString i)) μ) : bfS .str1 [.int i] μ Φ := ⟨h, q⟩
theorem f_str {i : Int} (h : i.natAbs.log2 < 1920) (q : Φ (.str (toString i)) μ) : xbfS .str1 [.int i] μ Φ := by with_unfolding_all exact f_str_z h q
theorem f_all_z {ds : List D} {bs : List Bool} (h : lstOf μ x = some ds) (h2 : allBl ds = some bs) (q : Φ (.bl (bs.all id)) μ) : bfS .all [x] μ Φ := by
  cases x <;> (unfold bfS; dsimp only; rw [h]; simp only [Option.bind_some]; rw [h2]; exact q)
theorem f_all {ds : List D} {bs : List Bool} (h : lstOf μ x = some ds) (h2 : allBl ds = some bs) (q : Φ (.bl (bs.all id)) μ) : xbfS .all [x] μ Φ := by with_unfolding_all exact f_all_z h h2 q
theorem f_any_z {ds : List D} {bs : List Bool} (h : lstOf μ x = some ds) (h2 : allBl ds = some bs) (q : Φ (.bl (bs.any id)) μ) : bfS .any [x] μ Φ := by
  cases x <;> (unfold bfS; dsimp only; rw [h]; simp only [Option.bind_some]; rw [h2]; exact q)
theorem f_any {ds : List D} {bs : List Bool} (h : lstOf μ x = some ds) (h2 : allBl ds = some bs) (q : Φ (.bl (bs.any id)) μ) : xbfS .any [x] μ Φ := by with_unfolding_all exact f_any_z h h2 q
theorem f_sum_z {ds : List D} {ns : List Int} (h : lstOf μ x = some ds) (h2 : allInt ds = some ns) (q : Φ (.int ns.sum) μ) : bfS .sum [x] μ Φ := by
  cases x <;> (unfold bfS; dsimp only; rw [h]; simp only [Option.bind_some]; rw [h2]; exact q)
theorem f_sum {ds : List D} {ns : List Int} (h : lstOf μ x = some ds) (h2 : allInt ds = some ns) (q : Φ (.int ns.sum) μ) : xbfS .sum [x] μ Φ := by with_unfolding_all exact f_sum_z h h2 q
theorem f_list_z {m : Bool} {ds : List D} (h : seqOf μ x = some ds) (q : newL m ds μ Φ) : bfS (.list m) [x] μ Φ := by
  cases x <;> (unfold bfS; dsimp only; rw [h]; exact q)
theorem f_list {m : Bool} {ds : List D} (h : seqOf μ x = some ds) (q : xnewL m ds μ Φ) : xbfS (.list m) [x] μ Φ := by with_unfolding_all exact f_list_z h q
theorem f_tuple_z {ds : List D} (h : lstOf μ x = some ds) (q : Φ (.tup ds) μ) : bfS .tuple [x] μ Φ := by
  cases x <;> first
    | (cases h; done)
    | (unfold bfS; dsimp only; rw [h]; exact q)
theorem f_tuple {ds : List D} (h : lstOf μ x = some ds) (q : Φ (.tup ds) μ) : xbfS .tuple [x] μ Φ := by with_unfolding_all exact f_tuple_z h q
theorem f_repr_z {p : PyData} (h : (deref μ x).py = some p) (h1 : p.showable = true) (h2 : p.depth ≤ 60) (h3 : p.shown.length ≤ sizeLine) (q : Φ (.str p.shown) μ) : bfS .repr [x] μ Φ := by
  cases x <;> exact ⟨p, derefT_py h, h1, h2, h3, q⟩
theorem f_repr {p : PyData} (h : (deref μ x).py = some p) (h1 : p.showable = true) (h2 : p.depth ≤ 60) (h3 : p.shown.length ≤ sizeLine) (q : Φ (.str p.shown) μ) : xbfS .repr [x] μ Φ := by with_unfolding_all exact f_repr_z h h1 h2 h3 q
theorem f_reprT_z {p : PyData} (h : (derefT μ x).py = some p) (h1 : p.showable = true) (h2 : p.depth ≤ 60) (h3 : p.shown.length ≤ sizeLine) (q : Φ (.str p.shown) μ) : bfS .repr [x] μ Φ := by
  cases x <;> exact ⟨p, h, h1, h2, h3, q⟩
theorem f_reprT {p : PyData} (h : (derefT μ x).py = some p) (h1 : p.showable = true) (h2 : p.depth ≤ 60) (h3 : p.shown.length ≤ sizeLine) (q : Φ (.str p.shown) μ) : xbfS .repr [x] μ Φ := by with_unfolding_all exact f_reprT_z h h1 h2 h3 q
theorem f_sorted_z {ds : List D} {ns : List Int} (h : lstOf μ x = some ds) (h2 : allInt ds = some ns) (h3 : ns.length < 64) (q : ∀ ns' : List Int, ns'.Perm ns → ns'.Pairwise (· ≤ ·) → Φ (.list (ns'.map .int)) μ) : bfS .sorted [x] μ Φ := by
  cases x <;> (unfold bfS; dsimp only; rw [h]; simp only [Option.bind_some]; rw [h2]; exact ⟨h3, q⟩)
theorem f_sorted {ds : List D} {ns : List Int} (h : lstOf μ x = some ds) (h2 : allInt ds = some ns) (h3 : ns.length < 64) (q : ∀ ns' : List Int, ns'.Perm ns → ns'.Pairwise (· ≤ ·) → Φ (.list (ns'.map .int)) μ) : xbfS .sorted [x] μ Φ := by with_unfolding_all exact f_sorted_z h h2 h3 q
/-! tests -/
theorem q_t {A B : Prop} (q : A) : if true = true then A else B := q
theorem q_f {A B : Prop} (q : B) : if false = true then A else B := by simpa using q
theorem q_d {P A B : Prop} [Decidable P] (h1 : P → A) (h2 : ¬ P → B) : if decide P = true then A else B := by
  by_cases h : P
  · rw [if_pos (by simpa using h)]; exact h1 h
  · rw [if_neg (by simpa using h)]; exact h2 h
theorem q_nd {P A B : Prop} [Decidable P] (h1 : ¬ P → A) (h2 : P → B) : if (!decide P) = true then A else B := by
  by_cases h : P
  · rw [if_neg (by simpa using h)]; exact h2 h
  · rw [if_pos (by simpa using h)]; exact h1 h
theorem q_b {k : Bool} {A B : Prop} (h1 : k = true → A) (h2 : k = false → B) : if k = true then A else B := by
  cases k
  · exact q_f (h2 rfl)
  · exact q_t (h1 rfl)
end
section
variable {T : Tbl} {call : ACall} {ρ ρ' : Env} {μ : Mem} {nx bk ct : Env → Mem → Prop} {rt : D → Mem → Prop} {ex : Nat → List (Nat × D) → Env → Mem → Prop} {d x y : D} {a b e t o : CE} {es : CEs} {i j : Nat} {s : CS} {ss : CSs} {N : Env → Mem → Prop}
theorem w_nil_z (q : nx ρ μ) : wSs T call .nil ⟨nx, rt, bk, ct, ex⟩ ρ μ := q
theorem w_nil (q : nx ρ μ) : xSs T call .nil ⟨nx, rt, bk, ct, ex⟩ ρ μ := by with_unfolding_all exact w_nil_z q
theorem w_cons_z (q : wS T call s ⟨wSs T call ss ⟨nx, rt, bk, ct, ex⟩, rt, bk, ct, ex⟩ ρ μ) : wSs T call (.cons s ss) ⟨nx, rt, bk, ct, ex⟩ ρ μ := q
theorem w_cons (q : xS T call s ⟨xSs T call ss ⟨nx, rt, bk, ct, ex⟩, rt, bk, ct, ex⟩ ρ μ) : xSs T call (.cons s ss) ⟨nx, rt, bk, ct, ex⟩ ρ μ := by with_unfolding_all exact w_cons_z q
/-- a statement, then what stands behind it: by what holds between -/
theorem w_seq_z (P : Env → Mem → Prop) (h2 : ∀ ρ μ, P ρ μ → wSs T call ss ⟨nx, rt, bk, ct, ex⟩ ρ μ) (h1 : ∀ N : Env → Mem → Prop, (∀ ρ μ, P ρ μ → N ρ μ) → wS T call s ⟨N, rt, bk, ct, ex⟩ ρ μ) : wSs T call (.cons s ss) ⟨nx, rt, bk, ct, ex⟩ ρ μ := h1 _ h2
theorem w_seq (P : Env → Mem → Prop) (h2 : ∀ ρ μ, P ρ μ → xSs T call ss ⟨nx, rt, bk, ct, ex⟩ ρ μ) (h1 : ∀ N : Env → Mem → Prop, (∀ ρ μ, P ρ μ → N ρ μ) → xS T call s ⟨N, rt, bk, ct, ex⟩ ρ μ) : xSs T call (.cons s ss) ⟨nx, rt, bk, ct, ex⟩ ρ μ := by with_unfolding_all exact w_seq_z P h2 h1
theorem w_asg_z {t : CT} (q : wE T call e ρ μ (fun d μ1 => wTg T call t d ρ μ1 nx) (fun c fs μ2 => ex c fs ρ μ2)) : wS T call (.asg t e) ⟨nx, rt, bk, ct, ex⟩ ρ μ := q
theorem w_asg {t : CT} (q : xE T call e ρ μ (fun d μ1 => xTg T call t d ρ μ1 nx) (fun c fs μ2 => ex c fs ρ μ2)) : xS T call (.asg t e) ⟨nx, rt, bk, ct, ex⟩ ρ μ := by with_unfolding_all exact w_asg_z q
theorem w_par_z (q : wE T call a ρ μ (fun x μ1 => wE T call b ρ μ1 (fun y μ2 => nx ((ρ.set i (some x)).set j (some y)) μ2) (fun c fs μ2 => ex c fs ρ μ2)) (fun c fs μ2 => ex c fs ρ μ2)) : wS T call (.par i j a b) ⟨nx, rt, bk, ct, ex⟩ ρ μ := q
theorem w_par (q : xE T call a ρ μ (fun x μ1 => xE T call b ρ μ1 (fun y μ2 => nx ((ρ.set i (some x)).set j (some y)) μ2) (fun c fs μ2 => ex c fs ρ μ2)) (fun c fs μ2 => ex c fs ρ μ2)) : xS T call (.par i j a b) ⟨nx, rt, bk, ct, ex⟩ ρ μ := by with_unfolding_all exact w_par_z q
theorem w_ex_z (q : wE T call e ρ μ (fun _ μ1 => nx ρ μ1) (fun c fs μ2 => ex c fs ρ μ2)) : wS T call (.ex e) ⟨nx, rt, bk, ct, ex⟩ ρ μ := q
theorem w_ex (q : xE T call e ρ μ (fun _ μ1 => nx ρ μ1) (fun c fs μ2 => ex c fs ρ μ2)) : xS T call (.ex e) ⟨nx, rt, bk, ct, ex⟩ ρ μ := by with_unfolding_all exact w_ex_z q
theorem w_pass_z (q : nx ρ μ) : wS T call .pass ⟨nx, rt, bk, ct, ex⟩ ρ μ := q
theorem w_pass (q : nx ρ μ) : xS T call .pass ⟨nx, rt, bk, ct, ex⟩ ρ μ := by with_unfolding_all exact w_pass_z q
theorem w_ite_z {a b : CSs} (q : wE T call t ρ μ (fun k μ1 => tQ k μ1 fun k μ1 => if k = true then wSs T call a ⟨nx, rt, bk, ct, ex⟩ ρ μ1 else wSs T call b ⟨nx, rt, bk, ct, ex⟩ ρ μ1) (fun c fs μ2 => ex c fs ρ μ2)) : wS T call (.ite t a b) ⟨nx, rt, bk, ct, ex⟩ ρ μ := q
theorem w_ite {a b : CSs} (q : xE T call t ρ μ (fun k μ1 => tQ k μ1 fun k μ1 => if k = true then xSs T call a ⟨nx, rt, bk, ct, ex⟩ ρ μ1 else xSs T call b ⟨nx, rt, bk, ct, ex⟩ ρ μ1) (fun c fs μ2 => ex c fs ρ μ2)) : xS T call (.ite t a b) ⟨nx, rt, bk, ct, ex⟩ ρ μ := by with_unfolding_all exact w_ite_z q
theorem w_for_z {t : CT} {it : CI} {b : CSs} (q : wI T call it ρ μ (fun items G μ1 => forL (wTg T call t) (wSs T call b) G items ⟨nx, rt, bk, ct, ex⟩ ρ μ1) (fun c fs μ2 => ex c fs ρ μ2)) : wS T call (.for_ t it b) ⟨nx, rt, bk, ct, ex⟩ ρ μ := q
theorem w_for {t : CT} {it : CI} {b : CSs} (q : xI T call it ρ μ (fun items G μ1 => xforL (xTg T call t) (xSs T call b) G items ⟨nx, rt, bk, ct, ex⟩ ρ μ1) (fun c fs μ2 => ex c fs ρ μ2)) : xS T call (.for_ t it b) ⟨nx, rt, bk, ct, ex⟩ ρ μ := by with_unfolding_all exact w_for_z q
theorem w_ret_z (q : wE T call e ρ μ rt (fun c fs μ2 => ex c fs ρ μ2)) : wS T call (.ret e) ⟨nx, rt, bk, ct, ex⟩ ρ μ := q
theorem w_ret (q : xE T call e ρ μ rt (fun c fs μ2 => ex c fs ρ μ2)) : xS T call (.ret e) ⟨nx, rt, bk, ct, ex⟩ ρ μ := by with_unfolding_all exact w_ret_z q
theorem w_retN_z (q : rt .non μ) : wS T call .retN ⟨nx, rt, bk, ct, ex⟩ ρ μ := q
theorem w_retN (q : rt .non μ) : xS T call .retN ⟨nx, rt, bk, ct, ex⟩ ρ μ := by with_unfolding_all exact w_retN_z q
theorem w_brk_z (q : bk ρ μ) : wS T call .brk ⟨nx, rt, bk, ct, ex⟩ ρ μ := q
theorem w_brk (q : bk ρ μ) : xS T call .brk ⟨nx, rt, bk, ct, ex⟩ ρ μ := by with_unfolding_all exact w_brk_z q
theorem w_cont_z (q : ct ρ μ) : wS T call .cont ⟨nx, rt, bk, ct, ex⟩ ρ μ := q
theorem w_cont (q : ct ρ μ) : xS T call .cont ⟨nx, rt, bk, ct, ex⟩ ρ μ := by with_unfolding_all exact w_cont_z q
theorem w_aug_add_z {n : Int} (h : getSlot ρ i = some (.int n)) (q : wE T call e ρ μ (fun y μ1 => intQ y fun m => nx (ρ.set i (some (.int (n + m)))) μ1) (fun c fs μ2 => ex c fs ρ μ2)) : wS T call (.aug i .Add e) ⟨nx, rt, bk, ct, ex⟩ ρ μ := by
  unfold wS; rw [h]
  refine Eq.mp (congrArg (fun f => wE T call e ρ μ f _) ?_) q
  funext y μ1
  cases y <;> rfl
theorem w_aug_add {n : Int} (h : getSlot ρ i = some (.int n)) (q : xE T call e ρ μ (fun y μ1 => intQ y fun m => nx (ρ.set i (some (.int (n + m)))) μ1) (fun c fs μ2 => ex c fs ρ μ2)) : xS T call (.aug i .Add e) ⟨nx, rt, bk, ct, ex⟩ ρ μ := by with_unfolding_all exact w_aug_add_z h q
theorem w_aug_sub_z {n : Int} (h : getSlot ρ i = some (.int n)) (q : wE T call e ρ μ (fun y μ1 => intQ y fun m => nx (ρ.set i (some (.int (n - m)))) μ1) (fun c fs μ2 => ex c fs ρ μ2)) : wS T call (.aug i .Sub e) ⟨nx, rt, bk, ct, ex⟩ ρ μ := by
  unfold wS; rw [h]
  refine Eq.mp (congrArg (fun f => wE T call e ρ μ f _) ?_) q
  funext y μ1
  cases y <;> rfl
theorem w_aug_sub {n : Int} (h : getSlot ρ i = some (.int n)) (q : xE T call e ρ μ (fun y μ1 => intQ y fun m => nx (ρ.set i (some (.int (n - m)))) μ1) (fun c fs μ2 => ex c fs ρ μ2)) : xS T call (.aug i .Sub e) ⟨nx, rt, bk, ct, ex⟩ ρ μ := by with_unfolding_all exact w_aug_sub_z h q
theorem r_intQ {n : Int} {k : Int → Prop} (q : k n) : intQ (.int n) k := q
theorem w_fzL_z {p : Addr} {ds : List D} (h : getSlot ρ i = some (.ref p)) (h2 : μ p = some (.lst ds)) (q : nx (ρ.set i (some (.list ds))) (mdel μ p)) : wS T call (.fz i) ⟨nx, rt, bk, ct, ex⟩ ρ μ := by
  unfold wS; rw [h]; dsimp only; unfold frz; dsimp only; rw [h2]; exact q
theorem w_fzL {p : Addr} {ds : List D} (h : getSlot ρ i = some (.ref p)) (h2 : μ p = some (.lst ds)) (q : nx (ρ.set i (some (.list ds))) (mdel μ p)) : xS T call (.fz i) ⟨nx, rt, bk, ct, ex⟩ ρ μ := by with_unfolding_all exact w_fzL_z h h2 q
theorem frz_flat {k : D → Mem → Prop} (h : ∀ p, d ≠ .ref p) (q : k d μ) : frz d μ k := by
  cases d <;> first
    | exact q
    | exact (h _ rfl).elim
theorem w_fz_z (h : getSlot ρ i = some d) (q : frz d μ fun d' μ' => nx (ρ.set i (some d')) μ') : wS T call (.fz i) ⟨nx, rt, bk, ct, ex⟩ ρ μ := by
  unfold wS; rw [h]; exact q
theorem w_fz (h : getSlot ρ i = some d) (q : frz d μ fun d' μ' => nx (ρ.set i (some d')) μ') : xS T call (.fz i) ⟨nx, rt, bk, ct, ex⟩ ρ μ := by with_unfolding_all exact w_fz_z h q
theorem w_raise0_z {c : Nat} (h : T.excF c = some none) (q : ex c [] ρ μ) : wS T call (.raise c none) ⟨nx, rt, bk, ct, ex⟩ ρ μ := by
  unfold wS; rw [h]; exact q
theorem w_raise0 {c : Nat} (h : T.excF c = some none) (q : ex c [] ρ μ) : xS T call (.raise c none) ⟨nx, rt, bk, ct, ex⟩ ρ μ := by with_unfolding_all exact w_raise0_z h q
theorem w_raise1_z {c f : Nat} (h : T.excF c = some (some f)) (q : wE T call e ρ μ (fun d μ1 => ex c [(f, d)] ρ μ1) (fun c fs μ2 => ex c fs ρ μ2)) : wS T call (.raise c (some e)) ⟨nx, rt, bk, ct, ex⟩ ρ μ := by
  unfold wS; rw [h]; exact q
theorem w_raise1 {c f : Nat} (h : T.excF c = some (some f)) (q : xE T call e ρ μ (fun d μ1 => ex c [(f, d)] ρ μ1) (fun c fs μ2 => ex c fs ρ μ2)) : xS T call (.raise c (some e)) ⟨nx, rt, bk, ct, ex⟩ ρ μ := by with_unfolding_all exact w_raise1_z h q
def excQ (T : Tbl) (call : ACall) (D0 : AEnds) (c i : Nat) (h : CSs) (k : Nat) (fs : List (Nat × D)) (ρ1 : Env) (μ1 : Mem) : Prop := match T.subX k c with
    | some true => wSs T call h { nx := fun ρ2 μ2 => D0.nx (dropX (ρ2.set i none)) μ2, rt := D0.rt, bk := fun ρ2 μ2 => D0.bk (dropX (ρ2.set i none)) μ2, ct := fun ρ2 μ2 => D0.ct (dropX (ρ2.set i none)) μ2, ex := fun _ _ _ _ => False } (ρ1.set i (some (.exn k (fs.map (·.1)) (fs.map (·.2))))) μ1
    | some false => D0.ex k fs ρ1 μ1
    | none => False
theorem w_try_z {b h : CSs} {c : Nat} (q : wSs T call b ⟨nx, rt, bk, ct, excQ T call ⟨nx, rt, bk, ct, ex⟩ c i h⟩ ρ μ) : wS T call (.try_ b c i h) ⟨nx, rt, bk, ct, ex⟩ ρ μ := q
theorem w_try {b h : CSs} {c : Nat} (q : xSs T call b ⟨nx, rt, bk, ct, excQ T call ⟨nx, rt, bk, ct, ex⟩ c i h⟩ ρ μ) : xS T call (.try_ b c i h) ⟨nx, rt, bk, ct, ex⟩ ρ μ := by with_unfolding_all exact w_try_z q
def excN (T : Tbl) (call : ACall) (D0 : AEnds) (c : Nat) (h : CSs) (k : Nat) (fs : List (Nat × D)) (ρ1 : Env) (μ1 : Mem) : Prop := match T.subX k c with
    | some true => wSs T call h { nx := fun ρ2 μ2 => D0.nx (dropX ρ2) μ2, rt := D0.rt, bk := fun ρ2 μ2 => D0.bk (dropX ρ2) μ2, ct := fun ρ2 μ2 => D0.ct (dropX ρ2) μ2, ex := fun _ _ _ _ => False } ρ1 μ1
    | some false => D0.ex k fs ρ1 μ1
    | none => False
theorem w_tryN_z {b h : CSs} {c : Nat} (q : wSs T call b ⟨nx, rt, bk, ct, excN T call ⟨nx, rt, bk, ct, ex⟩ c h⟩ ρ μ) : wS T call (.tryN b c h) ⟨nx, rt, bk, ct, ex⟩ ρ μ := q
theorem w_tryN {b h : CSs} {c : Nat} (q : xSs T call b ⟨nx, rt, bk, ct, excN T call ⟨nx, rt, bk, ct, ex⟩ c h⟩ ρ μ) : xS T call (.tryN b c h) ⟨nx, rt, bk, ct, ex⟩ ρ μ := by with_unfolding_all exact w_tryN_z q
theorem r_excN_z {h : CSs} {c k : Nat} {fs : List (Nat × D)} (hs : T.subX k c = some true) (q : wSs T call h ⟨fun ρ2 μ2 => nx (dropX ρ2) μ2, rt, fun ρ2 μ2 => bk (dropX ρ2) μ2, fun ρ2 μ2 => ct (dropX ρ2) μ2, fun _ _ _ _ => False⟩ ρ μ) : excN T call ⟨nx, rt, bk, ct, ex⟩ c h k fs ρ μ := by
  unfold excN; rw [hs]; exact q
theorem r_excN {h : CSs} {c k : Nat} {fs : List (Nat × D)} (hs : T.subX k c = some true) (q : xSs T call h ⟨fun ρ2 μ2 => nx (dropX ρ2) μ2, rt, fun ρ2 μ2 => bk (dropX ρ2) μ2, fun ρ2 μ2 => ct (dropX ρ2) μ2, fun _ _ _ _ => False⟩ ρ μ) : excN T call ⟨nx, rt, bk, ct, ex⟩ c h k fs ρ μ := by with_unfolding_all exact r_excN_z hs q
theorem w_tryT_z {b : CSs} (q : wSs T call b ⟨nx, rt, bk, ct, fun _ _ _ _ => False⟩ ρ μ) : wS T call (.tryT b) ⟨nx, rt, bk, ct, ex⟩ ρ μ := q
theorem w_tryT {b : CSs} (q : xSs T call b ⟨nx, rt, bk, ct, fun _ _ _ _ => False⟩ ρ μ) : xS T call (.tryT b) ⟨nx, rt, bk, ct, ex⟩ ρ μ := by with_unfolding_all exact w_tryT_z q
theorem r_excQ_z {h : CSs} {c k : Nat} {fs : List (Nat × D)} (hs : T.subX k c = some true) (q : wSs T call h ⟨fun ρ2 μ2 => nx (dropX (ρ2.set i none)) μ2, rt, fun ρ2 μ2 => bk (dropX (ρ2.set i none)) μ2, fun ρ2 μ2 => ct (dropX (ρ2.set i none)) μ2, fun _ _ _ _ => False⟩ (ρ.set i (some (.exn k (fs.map (·.1)) (fs.map (·.2))))) μ) : excQ T call ⟨nx, rt, bk, ct, ex⟩ c i h k fs ρ μ := by
  unfold excQ; rw [hs]; exact q
theorem r_excQ {h : CSs} {c k : Nat} {fs : List (Nat × D)} (hs : T.subX k c = some true) (q : xSs T call h ⟨fun ρ2 μ2 => nx (dropX (ρ2.set i none)) μ2, rt, fun ρ2 μ2 => bk (dropX (ρ2.set i none)) μ2, fun ρ2 μ2 => ct (dropX (ρ2.set i none)) μ2, fun _ _ _ _ => False⟩ (ρ.set i (some (.exn k (fs.map (·.1)) (fs.map (·.2))))) μ) : excQ T call ⟨nx, rt, bk, ct, ex⟩ c i h k fs ρ μ := by with_unfolding_all exact r_excQ_z hs q
/-! targets -/
theorem t_nm_z (q : N (ρ.set i (some d)) μ) : wTg T call (.nm i) d ρ μ N := q
theorem t_nm (q : N (ρ.set i (some d)) μ) : xTg T call (.nm i) d ρ μ N := by with_unfolding_all exact t_nm_z q
theorem t_tup_z {ts : CTs} {ds : List D} (h : ds.length = ts.len) (q : wTgs T call ts ds ρ μ N) : wTg T call (.tup ts) (.tup ds) ρ μ N := ⟨h, q⟩
theorem t_tup {ts : CTs} {ds : List D} (h : ds.length = ts.len) (q : xTgs T call ts ds ρ μ N) : xTg T call (.tup ts) (.tup ds) ρ μ N := by with_unfolding_all exact t_tup_z h q
theorem t_star_z {ds : List D} (q : N ((ρ.set i (some d)).set j (some (.list ds))) μ) : wTg T call (.star i j) (.tup (d :: ds)) ρ μ N := q
theorem t_star {ds : List D} (q : N ((ρ.set i (some d)).set j (some (.list ds))) μ) : xTg T call (.star i j) (.tup (d :: ds)) ρ μ N := by with_unfolding_all exact t_star_z q
theorem t_starL_z {ds : List D} (q : N ((ρ.set i (some d)).set j (some (.list ds))) μ) : wTg T call (.star i j) (.list (d :: ds)) ρ μ N := q
theorem t_starL {ds : List D} (q : N ((ρ.set i (some d)).set j (some (.list ds))) μ) : xTg T call (.star i j) (.list (d :: ds)) ρ μ N := by with_unfolding_all exact t_starL_z q
theorem t_tgs0_z (q : N ρ μ) : wTgs T call .nil [] ρ μ N := q
theorem t_tgs0 (q : N ρ μ) : xTgs T call .nil [] ρ μ N := by with_unfolding_all exact t_tgs0_z q
theorem t_tgs_z {t : CT} {ts : CTs} {ds : List D} (q : wTg T call t d ρ μ (fun ρ1 μ1 => wTgs T call ts ds ρ1 μ1 N)) : wTgs T call (.cons t ts) (d :: ds) ρ μ N := q
theorem t_tgs {t : CT} {ts : CTs} {ds : List D} (q : xTg T call t d ρ μ (fun ρ1 μ1 => xTgs T call ts ds ρ1 μ1 N)) : xTgs T call (.cons t ts) (d :: ds) ρ μ N := by with_unfolding_all exact t_tgs_z q
def stQ (v x y : D) (ρ : Env) (μ2 : Mem) (N : Env → Mem → Prop) : Prop := match x with
    | .ref a => (match μ2 a with
      | some (.lst ds) => (match y with
        | .int k => (match ixN ds.length k with
          | some j => N ρ (mset μ2 a (.lst (ds.set j v)))
          | none => False)
        | _ => False)
      | some (.dK ks ds) => (match keyD y with
        | some k => ks.length < 1000 ∧ N ρ (mset μ2 a (.dK ((kPut (ks.zip ds) k v).map (·.1)) ((kPut (ks.zip ds) k v).map (·.2))))
        | none => False)
      | _ => False)
    | _ => False
theorem t_sub_z {v : D} (q : wE T call o ρ μ (fun x μ1 => wE T call e ρ μ1 (fun y μ2 => stQ v x y ρ μ2 N) noX) noX) : wTg T call (.sub o e) v ρ μ N := q
theorem t_sub {v : D} (q : xE T call o ρ μ (fun x μ1 => xE T call e ρ μ1 (fun y μ2 => stQ v x y ρ μ2 N) noX) noX) : xTg T call (.sub o e) v ρ μ N := by with_unfolding_all exact t_sub_z q
theorem r_stQ {v : D} {p : Addr} {ds : List D} {k : Int} {j : Nat} (h : μ p = some (.lst ds)) (h2 : ixN ds.length k = some j) (q : N ρ (mset μ p (.lst (ds.set j v)))) : stQ v (.ref p) (.int k) ρ μ N := by
  unfold stQ; dsimp only; rw [h]; dsimp only; rw [h2]; exact q
def saQ (T : Tbl) (v x : D) (f : Nat) (ρ : Env) (μ1 : Mem) (N : Env → Mem → Prop) : Prop := match x with
    | .ref a => (match μ1 a with
      | some (.ins c fs) => (match T.init c with
        | some _ => fs.length < 900 ∧ f < T.flds.length ∧ N ρ (mset μ1 a (.ins c (setF f v fs)))
        | none => False)
      | _ => False)
    | _ => False
theorem t_att_z {v : D} {f : Nat} (q : wE T call o ρ μ (fun x μ1 => saQ T v x f ρ μ1 N) noX) : wTg T call (.att o f) v ρ μ N := q
theorem t_att {v : D} {f : Nat} (q : xE T call o ρ μ (fun x μ1 => saQ T v x f ρ μ1 N) noX) : xTg T call (.att o f) v ρ μ N := by with_unfolding_all exact t_att_z q
theorem r_saQ {v : D} {f c g : Nat} {p : Addr} {fs : List (Nat × D)} (h : μ p = some (.ins c fs)) (h2 : T.init c = some g) (h3 : Nat.ble (fs.length + 1) 900 = true) (h4 : Nat.ble (f + 1) T.flds.length = true) (q : N ρ (mset μ p (.ins c (setF f v fs)))) : saQ T v (.ref p) f ρ μ N := by
  unfold saQ; dsimp only; rw [h]; dsimp only; rw [h2]; exact ⟨Nat.le_of_ble_eq_true h3, Nat.le_of_ble_eq_true h4, q⟩
/-! walks -/
def seqQ (x : D) (μ1 : Mem) (R : List D → (Mem → Prop) → Mem → Prop) : Prop := match x with
    | .list ds => R ds (fun _ => True) μ1
    | .ro ds => R ds (fun _ => True) μ1
    | .tup ds => R ds (fun _ => True) μ1
    | .str s => R (s.cps.toList.map fun c => D.str ⟨#[c]⟩) (fun _ => True) μ1
    | .ref a => (match μ1 a with
      | some (.lst ds) => R ds (fun μ => μ a = some (.lst ds)) μ1
      | _ => False)
    | _ => False
def enQ (x : D) (μ1 : Mem) (R : List D → (Mem → Prop) → Mem → Prop) : Prop := match x with
    | .list ds => R (ds.zipIdx.map fun p => .tup [.int (p.2 : Int), p.1]) (fun _ => True) μ1
    | .ro ds => R (ds.zipIdx.map fun p => .tup [.int (p.2 : Int), p.1]) (fun _ => True) μ1
    | .ref a => (match μ1 a with
      | some (.lst ds) => R (ds.zipIdx.map fun p => .tup [.int (p.2 : Int), p.1]) (fun μ => μ a = some (.lst ds)) μ1
      | _ => False)
    | _ => False
variable {R : List D → (Mem → Prop) → Mem → Prop} {Ψ : AX}
theorem i_seq_z (q : wE T call e ρ μ (fun x μ1 => seqQ x μ1 R) Ψ) : wI T call (.seq e) ρ μ R Ψ := q
theorem i_seq (q : xE T call e ρ μ (fun x μ1 => seqQ x μ1 R) Ψ) : xI T call (.seq e) ρ μ R Ψ := by with_unfolding_all exact i_seq_z q
theorem i_list {ds : List D} (q : R ds (fun _ => True) μ) : seqQ (.list ds) μ R := q
theorem i_ro {ds : List D} (q : R ds (fun _ => True) μ) : seqQ (.ro ds) μ R := q
theorem i_tup {ds : List D} (q : R ds (fun _ => True) μ) : seqQ (.tup ds) μ R := q
theorem i_str {s : Str} (q : R (s.cps.toList.map fun c => D.str ⟨#[c]⟩) (fun _ => True) μ) : seqQ (.str s) μ R := q
theorem i_ref {p : Addr} {ds : List D} (h : μ p = some (.lst ds)) (q : R ds (fun μ => μ p = some (.lst ds)) μ) : seqQ (.ref p) μ R := by
  unfold seqQ; dsimp only; rw [h]; exact q
theorem i_range1_z (q : wE T call e ρ μ (fun x μ1 => intQ x fun n => -(2 ^ 62) ≤ n ∧ n < 2 ^ 62 ∧ R ((List.range n.toNat).map fun (i : Nat) => D.int (i : Int)) (fun _ => True) μ1) Ψ) : wI T call (.range1 e) ρ μ R Ψ := q
theorem i_range1 (q : xE T call e ρ μ (fun x μ1 => intQ x fun n => -(2 ^ 62) ≤ n ∧ n < 2 ^ 62 ∧ R ((List.range n.toNat).map fun (i : Nat) => D.int (i : Int)) (fun _ => True) μ1) Ψ) : xI T call (.range1 e) ρ μ R Ψ := by with_unfolding_all exact i_range1_z q
theorem i_enum_z (q : wE T call e ρ μ (fun x μ1 => enQ x μ1 R) Ψ) : wI T call (.enum e) ρ μ R Ψ := q
theorem i_enum (q : xE T call e ρ μ (fun x μ1 => enQ x μ1 R) Ψ) : xI T call (.enum e) ρ μ R Ψ := by with_unfolding_all exact i_enum_z q
theorem e_list {ds : List D} (q : R (ds.zipIdx.map fun p => .tup [.int (p.2 : Int), p.1]) (fun _ => True) μ) : enQ (.list ds) μ R := q
theorem e_ref {p : Addr} {ds : List D} (h : μ p = some (.lst ds)) (q : R (ds.zipIdx.map fun p => .tup [.int (p.2 : Int), p.1]) (fun μ => μ p = some (.lst ds)) μ) : enQ (.ref p) μ R := by
  unfold enQ; dsimp only; rw [h]; exact q
def zipQ (x y : D) (μ2 : Mem) (R : List D → (Mem → Prop) → Mem → Prop) : Prop := match zSrc x, zSrc y with
    | some xs, some ys => R ((xs.zip ys).map fun p => .tup [p.1, p.2]) (fun _ => True) μ2
    | _, _ => False
theorem i_zip_z {a b : CE} (q : wE T call a ρ μ (fun x μ1 => wE T call b ρ μ1 (fun y μ2 => zipQ x y μ2 R) Ψ) Ψ) : wI T call (.zip a b) ρ μ R Ψ := q
theorem i_zip {a b : CE} (q : xE T call a ρ μ (fun x μ1 => xE T call b ρ μ1 (fun y μ2 => zipQ x y μ2 R) Ψ) Ψ) : xI T call (.zip a b) ρ μ R Ψ := by with_unfolding_all exact i_zip_z q
theorem i_zipQ {xs ys : List D} (h1 : zSrc x = some xs) (h2 : zSrc y = some ys) (q : R ((xs.zip ys).map fun p => .tup [p.1, p.2]) (fun _ => True) μ) : zipQ x y μ R := by
  unfold zipQ; rw [h1, h2]; exact q
end
/-- a for by what stands ahead of each turn -/
theorem for_inv_z {tg : ATg} {bd : ASt} {G : Mem → Prop} {nx bk ct : Env → Mem → Prop} {rt : D → Mem → Prop} {ex : Nat → List (Nat × D) → Env → Mem → Prop} (I : List D → Env → Mem → Prop) (h0 : ∀ ρ μ, I [] ρ μ → G μ ∧ nx ρ μ)
    (hs : ∀ x xs ρ μ (K : Env → Mem → Prop), (∀ ρ' μ', I xs ρ' μ' → K ρ' μ') → I (x :: xs) ρ μ → G μ ∧ tg x ρ μ (fun ρ1 μ1 => bd ⟨K, rt, nx, K, ex⟩ ρ1 μ1)) : ∀ (items : List D) (ρ : Env) (μ : Mem), I items ρ μ → forL tg bd G items ⟨nx, rt, bk, ct, ex⟩ ρ μ
  | [], ρ, μ, h => h0 ρ μ h
  | x :: xs, ρ, μ, h => hs x xs ρ μ _ (for_inv_z I h0 hs xs) h
theorem for_inv {tg : ATg} {bd : ASt} {G : Mem → Prop} {nx bk ct : Env → Mem → Prop} {rt : D → Mem → Prop} {ex : Nat → List (Nat × D) → Env → Mem → Prop} (I : List D → Env → Mem → Prop) (h0 : ∀ ρ μ, I [] ρ μ → G μ ∧ nx ρ μ)
    (hs : ∀ x xs ρ μ (K : Env → Mem → Prop), (∀ ρ' μ', I xs ρ' μ' → K ρ' μ') → I (x :: xs) ρ μ → G μ ∧ tg x ρ μ (fun ρ1 μ1 => bd ⟨K, rt, nx, K, ex⟩ ρ1 μ1)) : ∀ (items : List D) (ρ : Env) (μ : Mem), I items ρ μ → xforL tg bd G items ⟨nx, rt, bk, ct, ex⟩ ρ μ := by with_unfolding_all exact for_inv_z I h0 hs
theorem whileN_inv {t : AT} {bd : ASt} {nx bk ct : Env → Mem → Prop} {rt : D → Mem → Prop} {ex : Nat → List (Nat × D) → Env → Mem → Prop} (I : Nat → Env → Mem → Prop)
    (hs : ∀ m ρ μ (K : Env → Mem → Prop), (∀ j ρ' μ', j < m → I j ρ' μ' → K ρ' μ') → I m ρ μ → t ρ μ (fun b μ1 => if b = true then bd ⟨K, rt, nx, K, ex⟩ ρ μ1 else nx ρ μ1) (fun c fs μ1 => ex c fs ρ μ1)) : ∀ (n m : Nat) (ρ : Env) (μ : Mem), m < n → I m ρ μ → whileN t bd n ⟨nx, rt, bk, ct, ex⟩ ρ μ
  | 0, _, _, _, h, _ => absurd h (Nat.not_lt_zero _)
  | n + 1, m, ρ, μ, h, hi => hs m ρ μ (whileN t bd n ⟨nx, rt, bk, ct, ex⟩) (fun j ρ' μ' hj hi' => whileN_inv I hs n j ρ' μ' (Nat.lt_of_lt_of_le hj (Nat.le_of_lt_succ h)) hi') hi
/-- a loop by what stands ahead of each turn, with a measure -/
theorem w_while_z {T : Tbl} {call : ACall} {t : CE} {b : CSs} {ρ : Env} {μ : Mem} {nx bk ct : Env → Mem → Prop} {rt : D → Mem → Prop} {ex : Nat → List (Nat × D) → Env → Mem → Prop} (I : Nat → Env → Mem → Prop) (m : Nat)
    (hs : ∀ m ρ μ (K : Env → Mem → Prop), (∀ j ρ' μ', j < m → I j ρ' μ' → K ρ' μ') → I m ρ μ → wE T call t ρ μ (fun d μ1 => tQ d μ1 fun k μ1 => if k = true then wSs T call b ⟨K, rt, nx, K, ex⟩ ρ μ1 else nx ρ μ1) (fun c fs μ1 => ex c fs ρ μ1)) (h : I m ρ μ) : wS T call (.while_ t b) ⟨nx, rt, bk, ct, ex⟩ ρ μ :=
  ⟨m + 1, whileN_inv I (fun m ρ μ K h1 h2 => by
    have q := hs m ρ μ K h1 h2
    unfold wT
    refine Eq.mp (congrArg (fun f => wE T call t ρ μ f _) ?_) q
    funext d μ1
    cases d <;> rfl) (m + 1) m ρ μ (Nat.lt_succ_self m) h⟩
theorem w_while {T : Tbl} {call : ACall} {t : CE} {b : CSs} {ρ : Env} {μ : Mem} {nx bk ct : Env → Mem → Prop} {rt : D → Mem → Prop} {ex : Nat → List (Nat × D) → Env → Mem → Prop} (I : Nat → Env → Mem → Prop) (m : Nat)
    (hs : ∀ m ρ μ (K : Env → Mem → Prop), (∀ j ρ' μ', j < m → I j ρ' μ' → K ρ' μ') → I m ρ μ → xE T call t ρ μ (fun d μ1 => tQ d μ1 fun k μ1 => if k = true then xSs T call b ⟨K, rt, nx, K, ex⟩ ρ μ1 else nx ρ μ1) (fun c fs μ1 => ex c fs ρ μ1)) (h : I m ρ μ) : xS T call (.while_ t b) ⟨nx, rt, bk, ct, ex⟩ ρ μ := by with_unfolding_all exact w_while_z I m hs h
/-- a comprehension by what stands ahead of each turn -/
theorem comp_inv_z {tg : ATg} {elt : AE} {tst : AT} {G : Mem → Prop} {ρ : Env} {Κ : List D → Mem → Prop} (I : List D → List D → Mem → Prop) (h0 : ∀ acc μ, I [] acc μ → G μ ∧ Κ acc μ)
    (hs : ∀ x xs acc μ (N : List D → Mem → Prop), (∀ acc' μ', I xs acc' μ' → N acc' μ') → I (x :: xs) acc μ → G μ ∧ tg x ρ μ (fun ρ1 μ1 => tst ρ1 μ1 (fun b μ2 => if b = true then elt ρ1 μ2 (fun d μ3 => acc.length < 1000000 ∧ N (acc ++ [d]) μ3) noX else N acc μ2) noX)) : ∀ (items acc : List D) (μ : Mem), I items acc μ → compL tg elt tst G items acc ρ μ Κ
  | [], acc, μ, h => h0 acc μ h
  | x :: xs, acc, μ, h => hs x xs acc μ _ (fun acc' μ' => comp_inv_z I h0 hs xs acc' μ') h
theorem comp_inv {tg : ATg} {elt : AE} {tst : AT} {G : Mem → Prop} {ρ : Env} {Κ : List D → Mem → Prop} (I : List D → List D → Mem → Prop) (h0 : ∀ acc μ, I [] acc μ → G μ ∧ Κ acc μ)
    (hs : ∀ x xs acc μ (N : List D → Mem → Prop), (∀ acc' μ', I xs acc' μ' → N acc' μ') → I (x :: xs) acc μ → G μ ∧ tg x ρ μ (fun ρ1 μ1 => tst ρ1 μ1 (fun b μ2 => if b = true then elt ρ1 μ2 (fun d μ3 => acc.length < 1000000 ∧ N (acc ++ [d]) μ3) noX else N acc μ2) noX)) : ∀ (items acc : List D) (μ : Mem), I items acc μ → xcompL tg elt tst G items acc ρ μ Κ := by with_unfolding_all exact comp_inv_z I h0 hs
/-- a comprehension that makes nothing that may change and raises nothing: item by item -/
theorem comp_map_z {tg : ATg} {elt : AE} {tst : AT} {G : Mem → Prop} {ρ : Env} {μ : Mem} {Κ : List D → Mem → Prop} (f : D → D) (hG : G μ) {items : List D}
    (h : ∀ x ∈ items, ∀ (Φ : AQ) (N : Mem → Prop), Φ (f x) μ → tg x ρ μ (fun ρ1 μ1 => tst ρ1 μ1 (fun b μ2 => if b = true then elt ρ1 μ2 Φ noX else N μ2) noX)) (hl : items.length ≤ 1000000) (K : Κ (items.map f) μ) : compL tg elt tst G items [] ρ μ Κ := by
  refine comp_inv_z (fun rest acc μ' => μ' = μ ∧ acc ++ rest.map f = items.map f ∧ (∀ x ∈ rest, x ∈ items)) ?_ ?_ items [] μ ⟨rfl, rfl, fun _ h => h⟩
  · rintro acc μ' ⟨rfl, h1, _⟩
    refine ⟨hG, ?_⟩
    rw [List.map_nil, List.append_nil] at h1
    rw [h1]; exact K
  · rintro x xs acc μ' N hN ⟨rfl, h1, h2⟩
    refine ⟨hG, ?_⟩
    refine h x (h2 x (List.mem_cons_self)) (fun d μ3 => acc.length < 1000000 ∧ N (acc ++ [d]) μ3) (fun μ2 => N acc μ2) ⟨?_, hN _ _ ⟨rfl, ?_, fun y hy => h2 y (List.mem_cons_of_mem _ hy)⟩⟩
    · have := congrArg List.length h1
      simp at this
      omega
    · rw [← h1]; simp
theorem comp_map {tg : ATg} {elt : AE} {tst : AT} {G : Mem → Prop} {ρ : Env} {μ : Mem} {Κ : List D → Mem → Prop} (f : D → D) (hG : G μ) {items : List D}
    (h : ∀ x ∈ items, ∀ (Φ : AQ) (N : Mem → Prop), Φ (f x) μ → tg x ρ μ (fun ρ1 μ1 => tst ρ1 μ1 (fun b μ2 => if b = true then elt ρ1 μ2 Φ noX else N μ2) noX)) (hl : items.length ≤ 1000000) (K : Κ (items.map f) μ) : xcompL tg elt tst G items [] ρ μ Κ := by with_unfolding_all exact comp_map_z f hG h hl K
theorem k_call_z {T : Tbl} {n f : Nat} {fd : Fdef} {ds : List D} {μ : Mem} {Φ : AQ} {Ψ : AX} (hf : T.fs[f]? = some fd) (hl : ds.length + fd.kw.length = fd.ps.length) (q : wSs T (callN T n) fd.body ⟨fun _ μ' => Φ .non μ', Φ, fun _ _ => False, fun _ _ => False, fun c fs _ μ' => Ψ c fs μ'⟩ ((ds ++ fd.kw.map (·.2)).map some ++ List.replicate (fd.N.length - fd.ps.length) none) μ) : callN T (n + 1) f ds μ Φ Ψ := by
  unfold callN; rw [hf]; exact ⟨hl, q⟩
theorem k_call {T : Tbl} {n f : Nat} {fd : Fdef} {ds : List D} {μ : Mem} {Φ : AQ} {Ψ : AX} (hf : T.fs[f]? = some fd) (hl : ds.length + fd.kw.length = fd.ps.length) (q : xSs T (xN T n) fd.body ⟨fun _ μ' => Φ .non μ', Φ, fun _ _ => False, fun _ _ => False, fun c fs _ μ' => Ψ c fs μ'⟩ ((ds ++ fd.kw.map (·.2)).map some ++ List.replicate (fd.N.length - fd.ps.length) none) μ) : xN T (n + 1) f ds μ Φ Ψ := by with_unfolding_all exact k_call_z hf hl q
end Fk
end
section
set_option maxHeartbeats 2000000
/-! Small data: what it shows is short, and it can be compared. -/
namespace Fk
open PySem PySem.Spec PyProof.Rows L2
mutual
def okD : D → Prop
  | .non => True
  | .bl _ => True
  | .int i => -(10 : Int) ^ 60 ≤ i ∧ i ≤ (10 : Int) ^ 60
  | .str x => PyData.strOk x = true
  | .tup ds => okL ds
  | .list ds => okL ds
  | .ro ds => okL ds
  | .dict ks ds => ks = [] ∧ ds = []
  | .ref _ => False
  | .ty _ => False
  | .exn _ _ _ => False
def okL : List D → Prop
  | [] => True
  | d :: ds => okD d ∧ okL ds
end
theorem okL_of {ds : List D} (h : ∀ d ∈ ds, okD d) : okL ds := by
  induction ds with
  | nil => exact trivial
  | cons d ds ih => exact ⟨h d (by simp), ih fun e he => h e (by simp [he])⟩
theorem okL_mem {ds : List D} (h : okL ds) : ∀ d ∈ ds, okD d := by
  induction ds with
  | nil => intro d hd; cases hd
  | cons e ds ih =>
    intro d hd
    obtain ⟨h1, h2⟩ := (show okD e ∧ okL ds from h)
    rcases List.mem_cons.mp hd with rfl | hd
    · exact h1
    · exact ih h2 d hd
mutual
def dep : D → Nat
  | .tup ds => depL ds + 1
  | .list ds => depL ds + 1
  | .ro ds => depL ds + 1
  | .dict _ _ => 1
  | .non => 0
  | .bl _ => 0
  | .int _ => 0
  | .str _ => 0
  | .ref _ => 0
  | .ty _ => 0
  | .exn _ _ _ => 0
def depL : List D → Nat
  | [] => 0
  | d :: ds => max (dep d) (depL ds)
end
mutual
def wei : D → Nat
  | .tup ds => weiL ds
  | .list ds => weiL ds
  | .ro ds => weiL ds
  | .str x => x.cps.size
  | .int _ => 210
  | .non => 0
  | .bl _ => 0
  | .dict _ _ => 0
  | .ref _ => 0
  | .ty _ => 0
  | .exn _ _ _ => 0
def weiL : List D → Nat
  | [] => 0
  | d :: ds => wei d + 1 + weiL ds
end
mutual
/-- no dict within -/
def nodic : D → Bool
  | .tup ds => nodicL ds
  | .list ds => nodicL ds
  | .ro ds => nodicL ds
  | .dict _ _ => false
  | .non => true
  | .bl _ => true
  | .int _ => true
  | .str _ => true
  | .ref _ => true
  | .ty _ => true
  | .exn _ _ _ => true
def nodicL : List D → Bool
  | [] => true
  | d :: ds => nodic d && nodicL ds
end
theorem depL_le {n : Nat} {ds : List D} (h : ∀ d ∈ ds, dep d ≤ n) : depL ds ≤ n := by
  induction ds with
  | nil => exact Nat.zero_le _
  | cons d ds ih => exact Nat.max_le.mpr ⟨h d (by simp), ih fun e he => h e (by simp [he])⟩
theorem weiL_le {n : Nat} {ds : List D} (h : ∀ d ∈ ds, wei d ≤ n) : weiL ds ≤ (n + 1) * ds.length := by
  induction ds with
  | nil => exact Nat.zero_le _
  | cons d ds ih =>
    have h1 := h d (by simp)
    have h2 := ih fun e he => h e (by simp [he])
    show wei d + 1 + weiL ds ≤ (n + 1) * (ds.length + 1)
    rw [Nat.mul_succ]
    omega
theorem nodicL_of {ds : List D} (h : ∀ d ∈ ds, nodic d = true) : nodicL ds = true := by
  induction ds with
  | nil => rfl
  | cons d ds ih =>
    show (nodic d && nodicL ds) = true
    rw [h d (by simp), ih fun e he => h e (by simp [he])]; rfl
theorem int_log {i : Int} (h : -(10 : Int) ^ 60 ≤ i ∧ i ≤ (10 : Int) ^ 60) : i.natAbs.log2 < 209 := by
  have h1 : i.natAbs < 2 ^ 209 := by
    have e : (10 : Int) ^ 60 = 1000000000000000000000000000000000000000000000000000000000000 := by decide
    have e2 : (2 : Nat) ^ 209 = 822752278660603021077484591278675252491367932816789931674304512 := by decide
    rw [e] at h
    rw [e2]
    omega
  exact PySem.Flt.log2_lt_of (by decide) h1
theorem int_short {i : Int} (h : -(10 : Int) ^ 60 ≤ i ∧ i ≤ (10 : Int) ^ 60) : (PyData.shown (.int i)).length ≤ 62 := by
  have h1 : i.natAbs < 10 ^ 61 := by
    have e : (10 : Int) ^ 60 = 1000000000000000000000000000000000000000000000000000000000000 := by decide
    have e2 : (10 : Nat) ^ 61 = 10000000000000000000000000000000000000000000000000000000000000 := by decide
    rw [e] at h
    rw [e2]
    omega
  have e := int_text_length_le10 (k := 61) (by decide) h1
  show (Str.ofString (toString i)).length ≤ 62
  rw [PySem.ofString_length]; exact e
/-- what the library's data is like -/
structure Lk (p : PyData) (k w : Nat) (n : Bool) : Prop where
  sh : p.showable = true
  lf : p.leavesShort 62 = true
  de : p.depth = k
  we : p.weight ≤ w
  cl : n = true → p.canLay0 = true
structure LkL (p : List PyData) (k w : Nat) (n : Bool) : Prop where
  sh : PyData.showableAll p = true
  lf : PyData.leavesShortAll 62 p = true
  de : PyData.depthAll p = k
  we : PyData.weightAll p ≤ w
  cl : n = true → PyData.canLayAll0 p = true
mutual
theorem okD_py : ∀ d : D, okD d → ∃ p, d.py = some p ∧ Lk p (dep d) (wei d) (nodic d)
  | .non, _ => ⟨_, rfl, rfl, rfl, rfl, Nat.le_refl _, fun _ => rfl⟩
  | .bl b, _ => ⟨_, rfl, rfl, rfl, rfl, Nat.le_refl _, fun _ => rfl⟩
  | .int i, h => ⟨_, rfl, decide_eq_true (Nat.lt_trans (int_log h) (by decide)), by
      show decide _ = true
      exact decide_eq_true (int_short h), rfl, by
      show (if i == 0 then 0 else i.natAbs.log2 + 1) ≤ 210
      have := int_log h
      split <;> omega, fun _ => rfl⟩
  | .str x, h => ⟨_, rfl, rfl, by
      have h1 : ∀ c ∈ x.cps.toList, c < 0x110000 := by
        intro c hcm
        have := (Array.all_eq_true_iff_forall_mem.mp (show x.cps.all (· < 0x110000) = true from h)) c (Array.mem_toList_iff.mp hcm)
        simpa using this
      simp only [PyData.leavesShort, List.all_eq_true, decide_eq_true_eq]
      intro c hcm
      have h2 := h1 c hcm
      have e : (16 : Nat) ^ 8 = 4294967296 := by decide
      omega, rfl, Nat.le_refl _, fun _ => h⟩
  | .tup ds, h => by
    obtain ⟨ps, e, k⟩ := okL_py ds h
    exact ⟨.tuple ps, by show (D.pyL ds).map PyData.tuple = _; rw [e]; rfl, k.sh, k.lf, congrArg (· + 1) k.de, k.we, k.cl⟩
  | .list ds, h => by
    obtain ⟨ps, e, k⟩ := okL_py ds h
    exact ⟨.list ps, by show (D.pyL ds).map PyData.list = _; rw [e]; rfl, k.sh, k.lf, congrArg (· + 1) k.de, k.we, k.cl⟩
  | .ro ds, h => by
    obtain ⟨ps, e, k⟩ := okL_py ds h
    exact ⟨.list ps, by show (D.pyL ds).map PyData.list = _; rw [e]; rfl, k.sh, k.lf, congrArg (· + 1) k.de, k.we, k.cl⟩
  | .dict ks ds, h => by
    obtain ⟨rfl, rfl⟩ := (show ks = [] ∧ ds = [] from h)
    exact ⟨_, rfl, rfl, rfl, rfl, Nat.le_refl _, fun h => nomatch h⟩
  | .ref _, h => h.elim
  | .ty _, h => h.elim
  | .exn _ _ _, h => h.elim
theorem okL_py : ∀ ds : List D, okL ds → ∃ ps, D.pyL ds = some ps ∧ LkL ps (depL ds) (weiL ds) (nodicL ds)
  | [], _ => ⟨_, rfl, rfl, rfl, rfl, Nat.le_refl _, fun _ => rfl⟩
  | d :: ds, h => by
    obtain ⟨h1, h2⟩ := (show okD d ∧ okL ds from h)
    obtain ⟨p, e, k⟩ := okD_py d h1
    obtain ⟨ps, e2, k2⟩ := okL_py ds h2
    refine ⟨p :: ps, ?_, ?_, ?_, ?_, ?_, ?_⟩
    · show (match D.py d, D.pyL ds with
        | some x, some xs => some (x :: xs)
        | _, _ => none) = _
      rw [e, e2]
    · show (p.showable && PyData.showableAll ps) = true
      rw [k.sh, k2.sh]; rfl
    · show (p.leavesShort 62 && PyData.leavesShortAll 62 ps) = true
      rw [k.lf, k2.lf]; rfl
    · show max p.depth (PyData.depthAll ps) = max (dep d) (depL ds)
      rw [k.de, k2.de]
    · show p.weight + 1 + PyData.weightAll ps ≤ wei d + 1 + weiL ds
      have := k.we
      have := k2.we
      omega
    · intro hn
      obtain ⟨n1, n2⟩ := Bool.and_eq_true_iff.mp (show (nodic d && nodicL ds) = true from hn)
      show (p.canLay0 && PyData.canLayAll0 ps) = true
      rw [k.cl n1, k2.cl n2]; rfl
end
/-- what it shows -/
def shw (d : D) : Str := (d.py.getD .none).shown
theorem f_reprOk {x : D} {μ : Mem} {Φ : AQ} (h : okD (deref μ x)) (hd : dep (deref μ x) ≤ 60) (hw : wei (deref μ x) ≤ 200000) (q : Φ (.str (shw (deref μ x))) μ) : xbfS .repr [x] μ Φ := by
  obtain ⟨p, e, k⟩ := okD_py _ h
  refine f_repr e k.sh (by rw [k.de]; exact hd) ?_ ?_
  · have h1 := PyData.shown_le 62 (by decide) p k.lf
    have h2 := k.we
    have e2 : sizeLine = 16777216 := rfl
    have h3 : (62 + 2) * p.weight ≤ 64 * 200000 := Nat.mul_le_mul_left _ (by omega)
    omega
  · have e3 : shw (deref μ x) = p.shown := by unfold shw; rw [e]; rfl
    rw [← e3]; exact q
theorem f_reprTOk {x : D} {μ : Mem} {Φ : AQ} (h : okD (derefT μ x)) (hd : dep (derefT μ x) ≤ 60) (hw : wei (derefT μ x) ≤ 200000) (q : Φ (.str (shw (derefT μ x))) μ) : xbfS .repr [x] μ Φ := by
  obtain ⟨p, e, k⟩ := okD_py _ h
  refine f_reprT e k.sh (by rw [k.de]; exact hd) ?_ ?_
  · have h1 := PyData.shown_le 62 (by decide) p k.lf
    have h2 := k.we
    have e2 : sizeLine = 16777216 := rfl
    have h3 : (62 + 2) * p.weight ≤ 64 * 200000 := Nat.mul_le_mul_left _ (by omega)
    omega
  · have e3 : shw (derefT μ x) = p.shown := by unfold shw; rw [e]; rfl
    rw [← e3]; exact q
/-! the signs of what is shown -/
def cOk (x : Str) : Prop := ∀ c ∈ x.cps.toList, c < 16 ^ 8
theorem cOk_app {a b : Str} (ha : cOk a) (hb : cOk b) : cOk (a ++ b) := by
  intro c hc
  have e : (a ++ b).cps.toList = a.cps.toList ++ b.cps.toList := by
    show (a.cps ++ b.cps).toList = _
    simp
  rw [e] at hc
  rcases List.mem_append.mp hc with h | h
  · exact ha c h
  · exact hb c h
theorem cOk_of (s : String) : cOk (Str.ofString s) := by
  intro c hc
  rw [Str.ofString_eq_toList] at hc
  have hc2 : c ∈ s.toList.map Char.toNat := by simpa using hc
  obtain ⟨k, _, rfl⟩ := List.mem_map.mp hc2
  have := k.val.toNat_lt
  show k.val.toNat < _
  have e : (16 : Nat) ^ 8 = 4294967296 := by decide
  omega
theorem cOk_from : ∀ (ts : List Str) (k : Nat) (acc : Str), cOk acc → (∀ t ∈ ts, cOk t) → cOk (textFrom k acc ts)
  | [], _, _, h, _ => h
  | t :: ts, k, acc, h, ht => cOk_from ts (k + 1) _ (cOk_app (cOk_app h (cOk_of _)) (ht t (by simp))) fun u hu => ht u (by simp [hu])
theorem cOk_listText {ts : List Str} (h : ∀ t ∈ ts, cOk t) : cOk (listText ts) := cOk_app (cOk_from ts 0 _ (cOk_of _) h) (cOk_of _)
theorem cOk_join : ∀ {ts : List Str}, (∀ t ∈ ts, cOk t) → cOk (Str.join ", " ts)
  | [], _ => fun _ h => nomatch h
  | [x], h => h x (by simp)
  | x :: y :: r, h => cOk_app (cOk_app (h x (by simp)) (cOk_of _)) (cOk_join fun t ht => h t (by simp [List.mem_cons.mp ht]))
theorem cOk_tupleText {ts : List Str} (h : ∀ t ∈ ts, cOk t) : cOk (tupleText ts) := cOk_app (cOk_app (cOk_of _) (cOk_join h)) (cOk_of _)
theorem cOk_char {q c : Nat} (hq : q < 16 ^ 8) (hc : c < 16 ^ 8) : ∀ d ∈ Builtin.Str.reprChar q c, d < 16 ^ 8 := by
  have hx : ∀ w : Nat, ∀ d ∈ (List.replicate (w - ((Nat.toDigits 16 c).map Char.toNat).length) 48 ++ (Nat.toDigits 16 c).map Char.toNat), d < 16 ^ 8 := by
    intro w d hd
    rcases List.mem_append.mp hd with h | h
    · rw [(List.mem_replicate.mp h).2]; decide
    · obtain ⟨k, _, rfl⟩ := List.mem_map.mp h
      have := k.val.toNat_lt
      show k.val.toNat < _
      have e : (16 : Nat) ^ 8 = 4294967296 := by decide
      omega
  intro d hd
  unfold Builtin.Str.reprChar at hd
  dsimp only at hd
  have e : (16 : Nat) ^ 8 = 4294967296 := by decide
  repeat' split at hd
  all_goals first
    | (rcases List.mem_append.mp hd with h | h
       · simp only [List.mem_cons, List.not_mem_nil, or_false] at h; omega
       · exact hx _ d h)
    | (simp only [List.mem_cons, List.not_mem_nil, or_false] at hd; omega)
theorem cOk_fold {q : Nat} (hq : q < 16 ^ 8) : ∀ (l : List Nat) (acc : Array Nat), (∀ c ∈ l, c < 16 ^ 8) → (∀ c ∈ acc.toList, c < 16 ^ 8) → ∀ c ∈ (l.foldl (fun out c => out ++ (Builtin.Str.reprChar q c).toArray) acc).toList, c < 16 ^ 8
  | [], _, _, h => h
  | x :: l, acc, hl, h => by
    rw [List.foldl_cons]
    refine cOk_fold hq l _ (fun c hc => hl c (by simp [hc])) ?_
    intro c hc
    have e : (acc ++ (Builtin.Str.reprChar q x).toArray).toList = acc.toList ++ Builtin.Str.reprChar q x := by simp
    rw [e] at hc
    rcases List.mem_append.mp hc with hc | hc
    · exact h c hc
    · exact cOk_char hq (hl x (by simp)) c hc
theorem quote_lt (x : Str) : reprQuote x < 16 ^ 8 := by
  unfold reprQuote
  split <;> decide
theorem cOk_repr {x : Str} (h : cOk x) : cOk (reprText x) := by
  intro c hc
  unfold reprText at hc
  rw [← Array.foldl_toList] at hc
  rw [Array.toList_push] at hc
  rcases List.mem_append.mp hc with hc | hc
  · refine cOk_fold (quote_lt x) _ _ h ?_ c hc
    intro d hd
    simp at hd
    rw [hd]
    exact quote_lt x
  · rw [List.mem_singleton.mp hc]
    exact quote_lt x
mutual
theorem shown_cOk : ∀ d : PyData, d.leavesShort 62 = true → d.hasDict = false → cOk d.shown
  | .none, _, _ => cOk_of _
  | .bool b, _, _ => by cases b <;> exact cOk_of _
  | .int i, _, _ => cOk_of _
  | .str x, h, _ => cOk_repr (by
      simp only [PyData.leavesShort, List.all_eq_true, decide_eq_true_eq] at h
      exact h)
  | .list xs, h, h2 => cOk_listText (shownAll_cOk xs h h2)
  | .tuple xs, h, h2 => cOk_tupleText (shownAll_cOk xs h h2)
  | .dict _, _, h => nomatch h
theorem shownAll_cOk : ∀ xs : List PyData, PyData.leavesShortAll 62 xs = true → PyData.hasDictAll xs = false → ∀ t ∈ PyData.shownAll xs, cOk t
  | [], _, _ => fun _ h => nomatch h
  | x :: xs, h, h2 => by
    obtain ⟨h1, h3⟩ := Bool.and_eq_true_iff.mp (show (x.leavesShort 62 && PyData.leavesShortAll 62 xs) = true from h)
    obtain ⟨h4, h5⟩ := Bool.or_eq_false_iff.mp (show (x.hasDict || PyData.hasDictAll xs) = false from h2)
    intro t ht
    rcases List.mem_cons.mp (show t ∈ x.shown :: PyData.shownAll xs from ht) with rfl | ht
    · exact shown_cOk x h1 h4
    · exact shownAll_cOk xs h3 h5 t ht
end
theorem shw_ok {d : D} {w : Nat} (h : okD d) (hn : nodic d = true) (hw : wei d ≤ w) : cOk (shw d) ∧ (shw d).length ≤ 64 * w + 62 := by
  obtain ⟨p, e, k⟩ := okD_py _ h
  have e3 : shw d = p.shown := by unfold shw; rw [e]; rfl
  rw [e3]
  refine ⟨shown_cOk p k.lf (PyData.hasDict_of_canLay p (k.cl hn)), ?_⟩
  have h1 := PyData.shown_le 62 (by decide) p k.lf
  have h2 := k.we
  have h3 : (62 + 2) * p.weight ≤ 64 * w := Nat.mul_le_mul_left _ (by omega)
  omega
/-- a list of a short word and a long text -/
theorem f_reprTxt {w x : Str} {μ : Mem} {Φ : AQ} (hw : cOk w) (hw2 : w.length ≤ 100) (hx : cOk x) (hl : x.length ≤ 1500000) (q : Φ (.str (shw (.list [.str w, .str x]))) μ) : xbfS .repr [.list [.str w, .str x]] μ Φ := by
  refine f_repr (p := .list [.str w, .str x]) rfl rfl (Nat.le_of_ble_eq_true rfl) ?_ q
  have h1 := listText_len_le [reprText w, reprText x]
  have h2 := StrLaws.reprText_len w hw
  have h3 := StrLaws.reprText_len x hx
  have e : sizeLine = 16777216 := rfl
  show (listText [reprText w, reprText x]).length ≤ _
  simp only [List.map_cons, List.map_nil, List.sum_cons, List.sum_nil, List.length_cons, List.length_nil] at h1
  omega
/-- data that the library can compare -/
def Val (d : D) : Prop := ∃ p, d.py = some p ∧ SeqAt.shaped p = true
theorem Val.of {d : D} (h : okD d) (h1 : nodic d = true) (h2 : dep d ≤ 64) : Val d := by
  obtain ⟨p, e, k⟩ := okD_py _ h
  refine ⟨p, e, ?_⟩
  show (p.canLay0 && decide (p.depth ≤ 64)) = true
  rw [k.cl h1, k.de, decide_eq_true h2]; rfl
end Fk
end
section
set_option maxHeartbeats 0
namespace Fk
open PySem PySem.Spec PyProof.Rows L2
def top (i : Nat) : Stmt := PySem.Challenge.pw_forkthrift_k81_whole_paths_gone_alone.main.body.getD i (.Pass ⟨0, 0, 0, 0⟩)
/-- 0: _wall(k); 0 k -/
def b0 : CSs := (.cons (.while_ (.con (.bl true)) (.cons .pass .nil)) .nil)
def d0 : Fdef := ⟨("_wall", none), "_wall", "_wall", top 0, ["k"], ["k"], b0, [], []⟩
/-- 1: is_number(thing); 0 thing -/
def b1 : CSs := (.cons (.ret (.bop .And (.cons (.isi (.var 0) false [.ty "int"]) (.cons (.not (.isi (.var 0) false [.ty "bool"])) .nil)))) .nil)
def d1 : Fdef := ⟨("is_number", none), "is_number", "is_number", top 13, ["thing"], ["thing"], b1, [], []⟩
/-- 2: is_whole(thing, least, most); 0 thing, 1 least, 2 most -/
def b2 : CSs := (.cons (.ret (.bop .And (.cons (.call 1 (.cons (.var 0) .nil)) (.cons (.chain .LtE .LtE (.var 1) (.var 0) (.var 2)) .nil)))) .nil)
def d2 : Fdef := ⟨("is_whole", none), "is_whole", "is_whole", top 14, ["thing", "least", "most"], ["thing", "least", "most"], b2, [], []⟩
/-- 3: is_size(thing); 0 thing -/
def b3 : CSs := (.cons (.ret (.call 2 (.cons (.var 0) (.cons (.con (.int 1)) (.cons (.glo "LARGEST") .nil))))) .nil)
def d3 : Fdef := ⟨("is_size", none), "is_size", "is_size", top 15, ["thing"], ["thing"], b3, [], []⟩
/-- 4: is_run(thing); 0 thing, 1 many, 2 number -/
def b4 : CSs := (.cons (.ite (.bop .Or (.cons (.not (.isi (.var 0) false [.ty "tuple"])) (.cons (.cmp .NotEq (.blt .len (.cons (.var 0) .nil)) (.con (.int 2))) .nil))) (.cons (.ret (.con (.bl false))) .nil) .nil) (.cons (.asg (.tup (.cons (.nm 1) (.cons (.nm 2) .nil))) (.var 0)) (.cons (.ret (.bop .And (.cons (.call 1 (.cons (.var 1) .nil)) (.cons (.cmp .Gt (.var 1) (.con (.int 0))) (.cons (.call 1 (.cons (.var 2) .nil)) .nil))))) .nil)))
def d4 : Fdef := ⟨("is_run", none), "is_run", "is_run", top 16, ["thing", "many", "number"], ["thing"], b4, [], []⟩
/-- 5: are_runs(thing, size); 0 thing, 1 size, 2 one, 3 other, 4 many, 5 number -/
def b5 : CSs := (.cons (.ite (.bop .Or (.cons (.not (.isi (.var 0) false [.ty "list"])) (.cons (.not (.blt .all (.cons (.comp false (.call 4 (.cons (.var 2) .nil)) (.nm 2) [("one", 2)] (.seq (.var 0)) .nil) .nil))) .nil))) (.cons (.ret (.con (.bl false))) .nil) .nil) (.cons (.ite (.blt .any (.cons (.comp false (.cmp .Eq (.sub (.var 2) (.con (.int 1))) (.sub (.var 3) (.con (.int 1)))) (.tup (.cons (.nm 2) (.cons (.nm 3) .nil))) [("one", 2), ("other", 3)] (.zip (.var 0) (.slc (.var 0) (.some (.con (.int 1))) .no)) .nil) .nil)) (.cons (.ret (.con (.bl false))) .nil) .nil) (.cons (.ret (.cmp .Eq (.blt .sum (.cons (.comp false (.var 4) (.tup (.cons (.nm 4) (.cons (.nm 5) .nil))) [("many", 4), ("number", 5)] (.seq (.var 0)) .nil) .nil)) (.var 1))) .nil)))
def d5 : Fdef := ⟨("are_runs", none), "are_runs", "are_runs", top 17, ["thing", "size", "one", "other", "many", "number"], ["thing", "size"], b5, [], []⟩
/-- 6: joined(pairs); 0 pairs, 1 found, 2 many, 3 number -/
def b6 : CSs := (.cons (.asg (.nm 1) (.lst true .nil)) (.cons (.for_ (.tup (.cons (.nm 2) (.cons (.nm 3) .nil))) (.seq (.var 0)) (.cons (.ite (.bop .And (.cons (.cmp .Gt (.var 2) (.con (.int 0))) (.cons (.cmp .NotEq (.var 1) (.lst false .nil)) (.cons (.cmp .Eq (.sub (.sub (.var 1) (.neg (.con (.int 1)))) (.con (.int 1))) (.var 3)) .nil)))) (.cons (.asg (.sub (.var 1) (.neg (.con (.int 1)))) (.tup (.cons (.bin false .Add (.sub (.sub (.var 1) (.neg (.con (.int 1)))) (.con (.int 0))) (.var 2)) (.cons (.var 3) .nil)))) .nil) (.cons (.ite (.cmp .Gt (.var 2) (.con (.int 0))) (.cons (.ex (.bm .append (.var 1) (.cons (.tup (.cons (.var 2) (.cons (.var 3) .nil))) .nil))) .nil) .nil) .nil)) .nil)) (.cons (.fz 1) (.cons (.ret (.var 1)) .nil))))
def d6 : Fdef := ⟨("joined", none), "joined", "joined", top 18, ["pairs", "found", "many", "number"], ["pairs"], b6, [], []⟩
/-- 7: cut_out(pairs, begin, end); 0 pairs, 1 begin, 2 end, 3 found, 4 at, 5 many, 6 number, 7 low, 8 high -/
def b7 : CSs := (.cons (.asg (.nm 3) (.lst true .nil)) (.cons (.asg (.nm 4) (.con (.int 0))) (.cons (.for_ (.tup (.cons (.nm 5) (.cons (.nm 6) .nil))) (.seq (.var 0)) (.cons (.par 7 8 (.blt .max2 (.cons (.var 1) (.cons (.var 4) .nil))) (.blt .min2 (.cons (.var 2) (.cons (.bin false .Add (.var 4) (.var 5)) .nil)))) (.cons (.ite (.cmp .Lt (.var 7) (.var 8)) (.cons (.ex (.bm .append (.var 3) (.cons (.tup (.cons (.bin false .Sub (.var 8) (.var 7)) (.cons (.var 6) .nil))) .nil))) .nil) .nil) (.cons (.aug 4 .Add (.var 5)) .nil)))) (.cons (.fz 3) (.cons (.ret (.var 3)) .nil)))))
def d7 : Fdef := ⟨("cut_out", none), "cut_out", "cut_out", top 19, ["pairs", "begin", "end", "found", "at", "many", "number", "low", "high"], ["pairs", "begin", "end"], b7, [], []⟩
/-- 8: want_size(thing); 0 thing -/
def b8 : CSs := (.cons (.ite (.not (.call 3 (.cons (.var 0) .nil))) (.cons (.raise 1 none) .nil) .nil) .nil)
def d8 : Fdef := ⟨("want_size", none), "want_size", "want_size", top 21, ["thing"], ["thing"], b8, [], []⟩
/-- 9: want_number(thing); 0 thing -/
def b9 : CSs := (.cons (.ite (.not (.call 1 (.cons (.var 0) .nil))) (.cons (.raise 3 none) .nil) .nil) .nil)
def d9 : Fdef := ⟨("want_number", none), "want_number", "want_number", top 22, ["thing"], ["thing"], b9, [], []⟩
/-- 10: want_cell(thing, size); 0 thing, 1 size -/
def b10 : CSs := (.cons (.ite (.not (.call 2 (.cons (.var 0) (.cons (.con (.int 0)) (.cons (.bin false .Sub (.var 1) (.con (.int 1))) .nil))))) (.cons (.raise 2 none) .nil) .nil) .nil)
def d10 : Fdef := ⟨("want_cell", none), "want_cell", "want_cell", top 23, ["thing", "size"], ["thing", "size"], b10, [], []⟩
/-- 11: want_stretch(begin, end, size); 0 begin, 1 end, 2 size -/
def b11 : CSs := (.cons (.ite (.bop .Or (.cons (.not (.call 2 (.cons (.var 0) (.cons (.con (.int 0)) (.cons (.var 2) .nil))))) (.cons (.not (.call 2 (.cons (.var 1) (.cons (.var 0) (.cons (.var 2) .nil))))) .nil))) (.cons (.raise 4 none) .nil) .nil) .nil)
def d11 : Fdef := ⟨("want_stretch", none), "want_stretch", "want_stretch", top 24, ["begin", "end", "size"], ["begin", "end", "size"], b11, [], []⟩
/-- 12: Memory.__init__(self, size, number); 0 self, 1 size, 2 number -/
def b12 : CSs := (.cons (.ex (.call 8 (.cons (.var 1) .nil))) (.cons (.ex (.call 9 (.cons (.var 2) .nil))) (.cons (.asg (.att (.var 0) 0) (.var 1)) (.cons (.asg (.att (.var 0) 1) (.lst false (.cons (.tup (.cons (.var 1) (.cons (.var 2) .nil))) .nil))) .nil))))
def d12 : Fdef := ⟨("Memory", some "__init__"), "__init__", "Memory.__init__", inClass (top 25) 0, ["self", "size", "number"], ["self", "size", "number"], b12, [("number", .int (0))], []⟩
/-- 13: Memory.size(self); 0 self -/
def b13 : CSs := (.cons (.ret (.attr (.var 0) 0)) .nil)
def d13 : Fdef := ⟨("Memory", some "size"), "size", "Memory.size", inClass (top 25) 1, ["self"], ["self"], b13, [], []⟩
/-- 14: Memory.at(self, cell); 0 self, 1 cell -/
def b14 : CSs := (.cons (.ex (.call 10 (.cons (.var 1) (.cons (.attr (.var 0) 0) .nil)))) (.cons (.ret (.sub (.sub (.call 7 (.cons (.attr (.var 0) 1) (.cons (.var 1) (.cons (.bin false .Add (.var 1) (.con (.int 1))) .nil)))) (.con (.int 0))) (.con (.int 1)))) .nil))
def d14 : Fdef := ⟨("Memory", some "at"), "at", "Memory.at", inClass (top 25) 2, ["self", "cell"], ["self", "cell"], b14, [], []⟩
/-- 15: Memory.runs(self); 0 self -/
def b15 : CSs := (.cons (.ret (.blt (.list true) (.cons (.attr (.var 0) 1) .nil))) .nil)
def d15 : Fdef := ⟨("Memory", some "runs"), "runs", "Memory.runs", inClass (top 25) 3, ["self"], ["self"], b15, [], []⟩
/-- 16: Memory.lay(self, begin, pairs, end); 0 self, 1 begin, 2 pairs, 3 end, 4 ahead, 5 behind -/
def b16 : CSs := (.cons (.asg (.nm 4) (.call 7 (.cons (.attr (.var 0) 1) (.cons (.con (.int 0)) (.cons (.var 1) .nil))))) (.cons (.asg (.nm 5) (.call 7 (.cons (.attr (.var 0) 1) (.cons (.var 3) (.cons (.attr (.var 0) 0) .nil))))) (.cons (.asg (.att (.var 0) 1) (.call 6 (.cons (.bin false .Add (.bin false .Add (.var 4) (.var 2)) (.var 5)) .nil))) .nil)))
def d16 : Fdef := ⟨("Memory", some "lay"), "lay", "Memory.lay", inClass (top 25) 4, ["self", "begin", "pairs", "end", "ahead", "behind"], ["self", "begin", "pairs", "end"], b16, [], []⟩
/-- 17: Memory.put(self, cell, number); 0 self, 1 cell, 2 number -/
def b17 : CSs := (.cons (.ex (.call 10 (.cons (.var 1) (.cons (.attr (.var 0) 0) .nil)))) (.cons (.ex (.call 9 (.cons (.var 2) .nil))) (.cons (.ex (.meth (.var 0) 3 (.cons (.var 1) (.cons (.lst false (.cons (.tup (.cons (.con (.int 1)) (.cons (.var 2) .nil))) .nil)) (.cons (.bin false .Add (.var 1) (.con (.int 1))) .nil))))) .nil)))
def d17 : Fdef := ⟨("Memory", some "put"), "put", "Memory.put", inClass (top 25) 5, ["self", "cell", "number"], ["self", "cell", "number"], b17, [], []⟩
/-- 18: Memory.fill(self, begin, end, number); 0 self, 1 begin, 2 end, 3 number -/
def b18 : CSs := (.cons (.ex (.call 11 (.cons (.var 1) (.cons (.var 2) (.cons (.attr (.var 0) 0) .nil))))) (.cons (.ex (.call 9 (.cons (.var 3) .nil))) (.cons (.ex (.meth (.var 0) 3 (.cons (.var 1) (.cons (.lst false (.cons (.tup (.cons (.bin false .Sub (.var 2) (.var 1)) (.cons (.var 3) .nil))) .nil)) (.cons (.var 2) .nil))))) .nil)))
def d18 : Fdef := ⟨("Memory", some "fill"), "fill", "Memory.fill", inClass (top 25) 6, ["self", "begin", "end", "number"], ["self", "begin", "end", "number"], b18, [], []⟩
/-- 19: Memory.bring(self, begin, end, to, source); 0 self, 1 begin, 2 end, 3 to, 4 source -/
def b19 : CSs := (.cons (.ex (.call 0 (.cons (.con (.int 0)) .nil))) .nil)
def d19 : Fdef := ⟨("Memory", some "bring"), "bring", "Memory.bring", inClass (top 25) 7, ["self", "begin", "end", "to", "source"], ["self", "begin", "end", "to", "source"], b19, [("source", .non)], []⟩
/-- 20: Memory.copied(self); 0 self -/
def b20 : CSs := (.cons (.ret (.call 24 (.cons (.attr (.var 0) 1) .nil))) .nil)
def d20 : Fdef := ⟨("Memory", some "copied"), "copied", "Memory.copied", inClass (top 25) 8, ["self"], ["self"], b20, [], []⟩
/-- 21: Memory.__eq__(self, other); 0 self, 1 other -/
def b21 : CSs := (.cons (.ret (.bop .And (.cons (.isi (.var 1) false [.own 9]) (.cons (.cmp .Eq (.attr (.var 0) 1) (.meth (.var 1) 2 .nil)) .nil)))) .nil)
def d21 : Fdef := ⟨("Memory", some "__eq__"), "__eq__", "Memory.__eq__", inClass (top 25) 9, ["self", "other"], ["self", "other"], b21, [], []⟩
/-- 22: Memory.__len__(self); 0 self -/
def b22 : CSs := (.cons (.ret (.blt .len (.cons (.attr (.var 0) 1) .nil))) .nil)
def d22 : Fdef := ⟨("Memory", some "__len__"), "__len__", "Memory.__len__", inClass (top 25) 10, ["self"], ["self"], b22, [], []⟩
/-- 23: Memory.__repr__(self); 0 self -/
def b23 : CSs := (.cons .no .nil)
def d23 : Fdef := ⟨("Memory", some "__repr__"), "__repr__", "Memory.__repr__", inClass (top 25) 11, ["self"], ["self"], b23, [], []⟩
/-- 24: memory_of(runs); 0 runs, 1 one, 2 size, 3 many, 4 number, 5 found -/
def b24 : CSs := (.cons (.ite (.bop .Or (.cons (.not (.isi (.var 0) false [.ty "list"])) (.cons (.not (.blt .all (.cons (.comp false (.call 4 (.cons (.var 1) .nil)) (.nm 1) [("one", 1)] (.seq (.var 0)) .nil) .nil))) .nil))) (.cons (.raise 5 none) .nil) .nil) (.cons (.asg (.nm 2) (.blt .sum (.cons (.comp false (.var 3) (.tup (.cons (.nm 3) (.cons (.nm 4) .nil))) [("many", 3), ("number", 4)] (.seq (.var 0)) .nil) .nil))) (.cons (.ite (.bop .Or (.cons (.not (.call 3 (.cons (.var 2) .nil))) (.cons (.not (.call 5 (.cons (.var 0) (.cons (.var 2) .nil)))) .nil))) (.cons (.raise 5 none) .nil) .nil) (.cons (.asg (.nm 5) (.new 9 (.cons (.var 2) .nil))) (.cons (.ex (.meth (.var 5) 3 (.cons (.con (.int 0)) (.cons (.blt (.list false) (.cons (.var 0) .nil)) (.cons (.var 2) .nil))))) (.cons (.ret (.var 5)) .nil))))))
def d24 : Fdef := ⟨("memory_of", none), "memory_of", "memory_of", top 26, ["runs", "one", "size", "many", "number", "found"], ["runs"], b24, [], []⟩
/-- 25: Lone.__init__(self, program); 0 self, 1 program -/
def b25 : CSs := (.cons (.asg (.att (.var 0) 2) (.meth (.var 1) 16 .nil)) (.cons (.asg (.att (.var 0) 3) (.new 9 (.cons (.meth (.var 1) 0 .nil) .nil))) (.cons (.asg (.att (.var 0) 4) (.lst true .nil)) (.cons (.asg (.att (.var 0) 5) (.con (.str ""))) (.cons (.asg (.att (.var 0) 6) (.glo "NO_ROW")) (.cons (.ex (.meth (.var 0) 8 (.cons (.con (.int 0)) .nil))) .nil))))))
def d25 : Fdef := ⟨("Lone", some "__init__"), "__init__", "Lone.__init__", inClass (top 35) 0, ["self", "program"], ["self", "program"], b25, [], []⟩
/-- 26: Lone.come_to(self, place); 0 self, 1 place -/
def b26 : CSs := (.cons (.ite (.bop .Or (.cons (.cmp .Eq (.var 1) (.blt .len (.cons (.attr (.var 0) 2) .nil))) (.cons (.cmp .Eq (.sub (.attr (.var 0) 2) (.var 1)) (.tup (.cons (.con (.str "done")) .nil))) .nil))) (.cons (.ex (.meth (.var 0) 9 (.cons (.glo "DONE") .nil))) .nil) (.cons (.asg (.att (.var 0) 6) (.var 1)) .nil)) .nil)
def d26 : Fdef := ⟨("Lone", some "come_to"), "come_to", "Lone.come_to", inClass (top 35) 1, ["self", "place"], ["self", "place"], b26, [], []⟩
/-- 27: Lone.rest(self, word); 0 self, 1 word -/
def b27 : CSs := (.cons (.asg (.att (.var 0) 6) (.glo "NO_ROW")) (.cons (.asg (.att (.var 0) 5) (.var 1)) .nil))
def d27 : Fdef := ⟨("Lone", some "rest"), "rest", "Lone.rest", inClass (top 35) 2, ["self", "word"], ["self", "word"], b27, [], []⟩
/-- 28: Lone.is_at_fork(self); 0 self -/
def b28 : CSs := (.cons (.ret (.bop .And (.cons (.cmp .NotEq (.attr (.var 0) 6) (.glo "NO_ROW")) (.cons (.cmp .Eq (.sub (.sub (.attr (.var 0) 2) (.attr (.var 0) 6)) (.con (.int 0))) (.glo "FORK")) .nil)))) .nil)
def d28 : Fdef := ⟨("Lone", some "is_at_fork"), "is_at_fork", "Lone.is_at_fork", inClass (top 35) 3, ["self"], ["self"], b28, [], []⟩
/-- 29: Lone.parted(self, program); 0 self, 1 program, 2 found -/
def b29 : CSs := (.cons (.asg (.nm 2) (.new 10 (.cons (.var 1) .nil))) (.cons (.asg (.att (.var 2) 3) (.meth (.attr (.var 0) 3) 7 .nil)) (.cons (.asg (.att (.var 2) 4) (.blt (.list true) (.cons (.attr (.var 0) 4) .nil))) (.cons (.asg (.att (.var 2) 5) (.con (.str ""))) (.cons (.ex (.meth (.var 2) 8 (.cons (.sub (.sub (.attr (.var 0) 2) (.attr (.var 0) 6)) (.con (.int 1))) .nil))) (.cons (.ex (.meth (.var 0) 8 (.cons (.bin false .Add (.attr (.var 0) 6) (.con (.int 1))) .nil))) (.cons (.ret (.var 2)) .nil)))))))
def d29 : Fdef := ⟨("Lone", some "parted"), "parted", "Lone.parted", inClass (top 35) 4, ["self", "program", "found"], ["self", "program"], b29, [], []⟩
/-- 30: Lone.goal_of(self, cell); 0 self, 1 cell, 2 found -/
def b30 : CSs := (.cons (.asg (.nm 2) (.meth (.attr (.var 0) 3) 1 (.cons (.var 1) .nil))) (.cons (.ret (.ite (.chain .LtE .Lt (.con (.int 0)) (.var 2) (.meth (.attr (.var 0) 3) 0 .nil)) (.var 2) (.glo "NO_ROW"))) .nil))
def d30 : Fdef := ⟨("Lone", some "goal_of"), "goal_of", "Lone.goal_of", inClass (top 35) 5, ["self", "cell", "found"], ["self", "cell"], b30, [], []⟩
/-- 31: Lone.change(self, word, things); 0 self, 1 word, 2 things, 3 cells -/
def b31 : CSs := (.cons (.asg (.nm 3) (.attr (.var 0) 3)) (.cons (.ite (.cmp .Eq (.var 1) (.con (.str "put"))) (.cons (.ex (.meth (.var 3) 4 (.cons (.sub (.var 2) (.con (.int 0))) (.cons (.sub (.var 2) (.con (.int 1))) .nil)))) .nil) (.cons (.ite (.cmp .Eq (.var 1) (.con (.str "move"))) (.cons (.ex (.meth (.var 3) 4 (.cons (.sub (.var 2) (.con (.int 0))) (.cons (.meth (.var 3) 1 (.cons (.sub (.var 2) (.con (.int 1))) .nil)) .nil)))) .nil) (.cons (.ite (.cmp .Eq (.var 1) (.con (.str "add"))) (.cons (.ex (.meth (.var 3) 4 (.cons (.sub (.var 2) (.con (.int 0))) (.cons (.bin false .Add (.meth (.var 3) 1 (.cons (.sub (.var 2) (.con (.int 0))) .nil)) (.meth (.var 3) 1 (.cons (.sub (.var 2) (.con (.int 1))) .nil))) .nil)))) .nil) (.cons (.ite (.cmp .Eq (.var 1) (.con (.str "fill"))) (.cons (.ex (.meth (.var 3) 5 (.cons (.sub (.var 2) (.con (.int 0))) (.cons (.sub (.var 2) (.con (.int 1))) (.cons (.meth (.var 3) 1 (.cons (.sub (.var 2) (.con (.int 2))) .nil)) .nil))))) .nil) (.cons (.ite (.cmp .Eq (.var 1) (.con (.str "tell"))) (.cons (.ex (.bm .append (.attr (.var 0) 4) (.cons (.meth (.var 3) 1 (.cons (.sub (.var 2) (.con (.int 0))) .nil)) .nil))) .nil) .nil) .nil)) .nil)) .nil)) .nil)) .nil))
def d31 : Fdef := ⟨("Lone", some "change"), "change", "Lone.change", inClass (top 35) 6, ["self", "word", "things", "cells"], ["self", "word", "things"], b31, [], []⟩
/-- 32: Lone.lead(self, word, things); 0 self, 1 word, 2 things, 3 goal -/
def b32 : CSs := (.cons (.asg (.nm 3) (.meth (.var 0) 12 (.cons (.ite (.cmp .Eq (.var 1) (.con (.str "from"))) (.sub (.var 2) (.con (.int 1))) (.sub (.var 2) (.con (.int 0)))) .nil))) (.cons (.ite (.cmp .Eq (.var 3) (.glo "NO_ROW")) (.cons (.ret (.con (.bl false))) .nil) .nil) (.cons (.ite (.cmp .Eq (.var 1) (.con (.str "from"))) (.cons (.ex (.meth (.attr (.var 0) 3) 4 (.cons (.sub (.var 2) (.con (.int 0))) (.cons (.meth (.attr (.var 0) 3) 1 (.cons (.var 3) .nil)) .nil)))) .nil) (.cons (.ex (.meth (.attr (.var 0) 3) 4 (.cons (.var 3) (.cons (.meth (.attr (.var 0) 3) 1 (.cons (.sub (.var 2) (.con (.int 1))) .nil)) .nil)))) .nil)) (.cons (.ret (.con (.bl true))) .nil))))
def d32 : Fdef := ⟨("Lone", some "lead"), "lead", "Lone.lead", inClass (top 35) 7, ["self", "word", "things", "goal"], ["self", "word", "things"], b32, [], []⟩
/-- 33: Lone.step(self); 0 self, 1 word, 2 things, 3 behind, 4 one, 5 other -/
def b33 : CSs := (.cons (.asg (.star 1 2) (.sub (.attr (.var 0) 2) (.attr (.var 0) 6))) (.cons (.asg (.nm 3) (.bin false .Add (.attr (.var 0) 6) (.con (.int 1)))) (.cons (.ite (.cmp .In (.var 1) (.tup (.cons (.con (.str "less")) (.cons (.con (.str "same")) .nil)))) (.cons (.par 4 5 (.meth (.attr (.var 0) 3) 1 (.cons (.sub (.var 2) (.con (.int 0))) .nil)) (.meth (.attr (.var 0) 3) 1 (.cons (.sub (.var 2) (.con (.int 1))) .nil))) (.cons (.ex (.meth (.var 0) 8 (.cons (.ite (.bop .Or (.cons (.bop .And (.cons (.cmp .Lt (.var 4) (.var 5)) (.cons (.cmp .Eq (.var 1) (.con (.str "less"))) .nil))) (.cons (.bop .And (.cons (.cmp .Eq (.var 4) (.var 5)) (.cons (.cmp .Eq (.var 1) (.con (.str "same"))) .nil))) .nil))) (.sub (.var 2) (.con (.int 2))) (.var 3)) .nil))) .nil)) (.cons (.ite (.bop .Or (.cons (.cmp .Eq (.var 1) (.con (.str "fail"))) (.cons (.bop .And (.cons (.cmp .In (.var 1) (.tup (.cons (.con (.str "from")) (.cons (.con (.str "into")) .nil)))) (.cons (.not (.meth (.var 0) 14 (.cons (.var 1) (.cons (.var 2) .nil)))) .nil))) .nil))) (.cons (.ex (.meth (.var 0) 9 (.cons (.glo "FAILED") .nil))) .nil) (.cons (.ex (.meth (.var 0) 13 (.cons (.var 1) (.cons (.var 2) .nil)))) (.cons (.ex (.meth (.var 0) 8 (.cons (.var 3) .nil))) .nil))) .nil)) .nil)))
def d33 : Fdef := ⟨("Lone", some "step"), "step", "Lone.step", inClass (top 35) 8, ["self", "word", "things", "behind", "one", "other"], ["self"], b33, [], []⟩
/-- 34: is_path(thing); 0 thing, 1 letter -/
def b34 : CSs := (.cons (.ret (.bop .And (.cons (.isi (.var 0) false [.ty "str"]) (.cons (.blt .all (.cons (.comp false (.cmp .In (.var 1) (.tup (.cons (.glo "ELDER") (.cons (.glo "YOUNGER") .nil)))) (.nm 1) [("letter", 1)] (.seq (.var 0)) .nil) .nil)) .nil)))) .nil)
def d34 : Fdef := ⟨("is_path", none), "is_path", "is_path", top 36, ["thing", "letter"], ["thing"], b34, [], []⟩
/-- 35: gone_alone(program, path, most); 0 program, 1 path, 2 most, 3 lone, 4 used, 5 done, 6 younger -/
def b35 : CSs := (.cons (.ite (.not (.call 34 (.cons (.var 1) .nil))) (.cons (.raise 7 none) .nil) .nil) (.cons (.asg (.nm 3) (.new 10 (.cons (.var 0) .nil))) (.cons (.asg (.tup (.cons (.nm 4) (.cons (.nm 5) .nil))) (.tup (.cons (.con (.int 0)) (.cons (.con (.int 0)) .nil)))) (.cons (.while_ (.bop .And (.cons (.cmp .Eq (.attr (.var 3) 5) (.con (.str ""))) (.cons (.bop .Or (.cons (.cmp .Lt (.var 4) (.blt .len (.cons (.var 1) .nil))) (.cons (.not (.meth (.var 3) 10 .nil)) .nil))) .nil))) (.cons (.ite (.cmp .Eq (.var 5) (.var 2)) (.cons .no .nil) .nil) (.cons (.aug 5 .Add (.con (.int 1))) (.cons (.ite (.meth (.var 3) 10 .nil) (.cons (.asg (.nm 6) (.meth (.var 3) 11 (.cons (.var 0) .nil))) (.cons (.asg (.nm 3) (.ite (.cmp .Eq (.sub (.var 1) (.var 4)) (.glo "YOUNGER")) (.var 6) (.var 3))) (.cons (.aug 4 .Add (.con (.int 1))) .nil))) (.cons (.ex (.meth (.var 3) 15 .nil)) .nil)) .nil)))) (.cons (.ite (.cmp .Lt (.var 4) (.blt .len (.cons (.var 1) .nil))) (.cons (.raise 7 none) .nil) .nil) (.cons (.ret (.tup (.cons (.ite (.cmp .NotEq (.attr (.var 3) 5) (.con (.str ""))) (.attr (.var 3) 5) (.glo "FORK")) (.cons (.attr (.var 3) 4) (.cons (.meth (.attr (.var 3) 3) 2 .nil) .nil))))) .nil))))))
def d35 : Fdef := ⟨("gone_alone", none), "gone_alone", "gone_alone", top 37, ["program", "path", "most", "lone", "used", "done", "younger"], ["program", "path", "most"], b35, [("most", .int (1000))], [(["path", "program"], [1, 0])]⟩
/-- 36: fits(sort, thing, size, many); 0 sort, 1 thing, 2 size, 3 many -/
def b36 : CSs := (.cons (.ite (.not (.call 1 (.cons (.var 1) .nil))) (.cons (.ret (.con (.bl false))) .nil) .nil) (.cons (.ite (.cmp .Eq (.var 0) (.con (.str "n"))) (.cons (.ret (.con (.bl true))) .nil) .nil) (.cons (.ret (.chain .LtE .Lt (.con (.int 0)) (.var 1) (.sub (.dct false [.inr "c", .inr "r", .inr "b", .inr "e"] (.cons (.var 2) (.cons (.bin false .Add (.var 3) (.con (.int 1))) (.cons (.bin false .Add (.var 2) (.con (.int 1))) (.cons (.bin false .Add (.var 2) (.con (.int 1))) .nil))))) (.var 0)))) .nil)))
def d36 : Fdef := ⟨("fits", none), "fits", "fits", top 40, ["sort", "thing", "size", "many"], ["sort", "thing", "size", "many"], b36, [], []⟩
/-- 37: is_program_row(thing, size, many); 0 thing, 1 size, 2 many, 3 word, 4 things, 5 sort, 6 one -/
def b37 : CSs := (.cons (.ite (.bop .Or (.cons (.not (.isi (.var 0) false [.ty "tuple"])) (.cons (.cmp .Eq (.var 0) (.tup .nil)) (.cons (.not (.isi (.sub (.var 0) (.con (.int 0))) false [.ty "str"])) (.cons (.gdin true "SHAPES" (.sub (.var 0) (.con (.int 0)))) .nil))))) (.cons (.ret (.con (.bl false))) .nil) .nil) (.cons (.asg (.star 3 4) (.var 0)) (.cons (.ite (.cmp .NotEq (.blt .len (.cons (.var 4) .nil)) (.blt .len (.cons (.gdget "SHAPES" (.var 3)) .nil))) (.cons (.ret (.con (.bl false))) .nil) .nil) (.cons (.ite (.not (.blt .all (.cons (.comp false (.call 36 (.cons (.var 5) (.cons (.var 6) (.cons (.var 1) (.cons (.var 2) .nil))))) (.tup (.cons (.nm 5) (.cons (.nm 6) .nil))) [("sort", 5), ("one", 6)] (.zip (.gdget "SHAPES" (.var 3)) (.var 4)) .nil) .nil))) (.cons (.ret (.con (.bl false))) .nil) .nil) (.cons (.ret (.bop .Or (.cons (.cmp .NotEq (.var 3) (.con (.str "fill"))) (.cons (.cmp .LtE (.sub (.var 4) (.con (.int 0))) (.sub (.var 4) (.con (.int 1)))) .nil)))) .nil)))))
def d37 : Fdef := ⟨("is_program_row", none), "is_program_row", "is_program_row", top 41, ["thing", "size", "many", "word", "things", "sort", "one"], ["thing", "size", "many"], b37, [], []⟩
/-- 38: Program.__init__(self, size, rows); 0 self, 1 size, 2 rows, 3 number, 4 row -/
def b38 : CSs := (.cons (.ite (.not (.call 3 (.cons (.var 1) .nil))) (.cons (.raise 1 none) .nil) .nil) (.cons (.ite (.not (.isi (.var 2) false [.ty "list"])) (.cons (.raise 6 (some (.con .non))) .nil) .nil) (.cons (.for_ (.tup (.cons (.nm 3) (.cons (.nm 4) .nil))) (.enum (.var 2)) (.cons (.ite (.not (.call 37 (.cons (.var 4) (.cons (.var 1) (.cons (.blt .len (.cons (.var 2) .nil)) .nil))))) (.cons (.raise 6 (some (.var 3))) .nil) .nil) .nil)) (.cons (.asg (.att (.var 0) 7) (.var 1)) (.cons (.asg (.att (.var 0) 8) (.blt (.list false) (.cons (.var 2) .nil))) .nil)))))
def d38 : Fdef := ⟨("Program", some "__init__"), "__init__", "Program.__init__", inClass (top 42) 0, ["self", "size", "rows", "number", "row"], ["self", "size", "rows"], b38, [], []⟩
/-- 39: Program.size(self); 0 self -/
def b39 : CSs := (.cons (.ret (.attr (.var 0) 7)) .nil)
def d39 : Fdef := ⟨("Program", some "size"), "size", "Program.size", inClass (top 42) 1, ["self"], ["self"], b39, [], []⟩
/-- 40: Program.rows(self); 0 self -/
def b40 : CSs := (.cons (.ret (.blt (.list false) (.cons (.attr (.var 0) 8) .nil))) .nil)
def d40 : Fdef := ⟨("Program", some "rows"), "rows", "Program.rows", inClass (top 42) 2, ["self"], ["self"], b40, [], []⟩
/-- 41: Program.__eq__(self, other); 0 self, 1 other -/
def b41 : CSs := (.cons (.ret (.bop .And (.cons (.isi (.var 1) false [.own 11]) (.cons (.cmp .Eq (.tup (.cons (.attr (.var 0) 7) (.cons (.attr (.var 0) 8) .nil))) (.tup (.cons (.attr (.var 1) 7) (.cons (.attr (.var 1) 8) .nil)))) .nil)))) .nil)
def d41 : Fdef := ⟨("Program", some "__eq__"), "__eq__", "Program.__eq__", inClass (top 42) 3, ["self", "other"], ["self", "other"], b41, [], []⟩
/-- 42: Program.__len__(self); 0 self -/
def b42 : CSs := (.cons (.ret (.blt .len (.cons (.attr (.var 0) 8) .nil))) .nil)
def d42 : Fdef := ⟨("Program", some "__len__"), "__len__", "Program.__len__", inClass (top 42) 4, ["self"], ["self"], b42, [], []⟩
/-- 43: _law_pot(_law_script, _law_k); 0 _law_script, 1 _law_k, 2 _law_cell_here -/
def b43 : CSs := (.cons (.asg (.nm 2) (.ite (.cmp .Lt (.var 1) (.blt .len (.cons (.var 0) .nil))) (.blt .abs (.cons (.sub (.var 0) (.var 1)) .nil)) (.con (.int 0)))) (.cons (.ret (.lst true (.cons (.blt .max2 (.cons (.con (.int 0)) (.cons (.bin false .Sub (.var 2) (.bin false .Pow (.con (.int 10)) (.con (.int 18)))) .nil))) (.cons (.bin false .Mod (.bin false .Add (.bin false .Add (.bin false .Mult (.bin false .Mod (.var 2) (.con (.int 2147483629))) (.con (.int 44101))) (.bin false .Mult (.con (.int 7001)) (.var 1))) (.con (.int 19))) (.con (.int 2147483647))) .nil)))) .nil))
def d43 : Fdef := ⟨("_law_pot", none), "_law_pot", "_law_pot", top 44, ["_law_script", "_law_k", "_law_cell_here"], ["_law_script", "_law_k"], b43, [], []⟩
/-- 44: _law_take(_law_pot_here, _law_many); 0 _law_pot_here, 1 _law_many, 2 _law_digit -/
def b44 : CSs := (.cons (.ite (.cmp .Gt (.sub (.var 0) (.con (.int 0))) (.con (.int 0))) (.cons (.asg (.tup (.cons (.sub (.var 0) (.con (.int 0))) (.cons (.nm 2) .nil))) (.blt .divmod (.cons (.sub (.var 0) (.con (.int 0))) (.cons (.var 1) .nil)))) (.cons (.ret (.var 2)) .nil)) .nil) (.cons (.asg (.sub (.var 0) (.con (.int 1))) (.bin false .Mod (.bin false .Add (.bin false .Mult (.sub (.var 0) (.con (.int 1))) (.con (.int 48271))) (.con (.int 20011))) (.con (.int 2147483647)))) (.cons (.ret (.bin false .Mod (.bin false .FloorDiv (.bin false .Mod (.bin false .Mult (.sub (.var 0) (.con (.int 1))) (.sub (.var 0) (.con (.int 1)))) (.con (.int 2147483587))) (.con (.int 7))) (.var 1))) .nil)))
def d44 : Fdef := ⟨("_law_take", none), "_law_take", "_law_take", top 45, ["_law_pot_here", "_law_many", "_law_digit"], ["_law_pot_here", "_law_many"], b44, [], []⟩
/-- 45: _law_among(_law_pot_here, _law_some); 0 _law_pot_here, 1 _law_some -/
def b45 : CSs := (.cons (.ret (.sub (.var 1) (.call 44 (.cons (.var 0) (.cons (.blt .len (.cons (.var 1) .nil)) .nil))))) .nil)
def d45 : Fdef := ⟨("_law_among", none), "_law_among", "_law_among", top 46, ["_law_pot_here", "_law_some"], ["_law_pot_here", "_law_some"], b45, [], []⟩
/-- 46: _law_part(_law_row, _law_begin, _law_stop); 0 _law_row, 1 _law_begin, 2 _law_stop, 3 _law_found, 4 _law_here, 5 _law_many, 6 _law_number, 7 _law_low, 8 _law_high -/
def b46 : CSs := (.cons (.par 3 4 (.lst true .nil) (.con (.int 0))) (.cons (.for_ (.tup (.cons (.nm 5) (.cons (.nm 6) .nil))) (.seq (.var 0)) (.cons (.par 7 8 (.blt .max2 (.cons (.var 4) (.cons (.var 1) .nil))) (.blt .min2 (.cons (.bin false .Add (.var 4) (.var 5)) (.cons (.var 2) .nil)))) (.cons (.ite (.cmp .Lt (.var 7) (.var 8)) (.cons (.ex (.bm .append (.var 3) (.cons (.tup (.cons (.bin false .Sub (.var 8) (.var 7)) (.cons (.var 6) .nil))) .nil))) .nil) .nil) (.cons (.asg (.nm 4) (.bin false .Add (.var 4) (.var 5))) .nil)))) (.cons (.fz 3) (.cons (.ret (.var 3)) .nil))))
def d46 : Fdef := ⟨("_law_part", none), "_law_part", "_law_part", top 47, ["_law_row", "_law_begin", "_law_stop", "_law_found", "_law_here", "_law_many", "_law_number", "_law_low", "_law_high"], ["_law_row", "_law_begin", "_law_stop"], b46, [], []⟩
/-- 47: _law_joined(_law_row); 0 _law_row, 1 _law_found, 2 _law_many, 3 _law_number -/
def b47 : CSs := (.cons (.asg (.nm 1) (.lst true .nil)) (.cons (.for_ (.tup (.cons (.nm 2) (.cons (.nm 3) .nil))) (.seq (.var 0)) (.cons (.ite (.bop .And (.cons (.cmp .NotEq (.var 1) (.lst false .nil)) (.cons (.cmp .Eq (.sub (.sub (.var 1) (.neg (.con (.int 1)))) (.con (.int 1))) (.var 3)) .nil))) (.cons (.asg (.nm 2) (.bin false .Add (.var 2) (.sub (.bm .pop (.var 1) .nil) (.con (.int 0))))) .nil) .nil) (.cons (.ex (.bm .append (.var 1) (.cons (.tup (.cons (.var 2) (.cons (.var 3) .nil))) .nil))) .nil))) (.cons (.fz 1) (.cons (.ret (.var 1)) .nil))))
def d47 : Fdef := ⟨("_law_joined", none), "_law_joined", "_law_joined", top 48, ["_law_row", "_law_found", "_law_many", "_law_number"], ["_law_row"], b47, [], []⟩
/-- 48: _law_with(_law_row, _law_begin, _law_part_here); 0 _law_row, 1 _law_begin, 2 _law_part_here, 3 _law_stop, 4 _law_many, 5 _law_number, 6 _law_wide -/
def b48 : CSs := (.cons (.asg (.nm 3) (.bin false .Add (.var 1) (.blt .sum (.cons (.comp false (.var 4) (.tup (.cons (.nm 4) (.cons (.nm 5) .nil))) [("_law_many", 4), ("_law_number", 5)] (.seq (.var 2)) .nil) .nil)))) (.cons (.asg (.nm 6) (.blt .sum (.cons (.comp false (.var 4) (.tup (.cons (.nm 4) (.cons (.nm 5) .nil))) [("_law_many", 4), ("_law_number", 5)] (.seq (.var 0)) .nil) .nil))) (.cons (.ret (.call 47 (.cons (.bin false .Add (.bin false .Add (.call 46 (.cons (.var 0) (.cons (.con (.int 0)) (.cons (.var 1) .nil)))) (.var 2)) (.call 46 (.cons (.var 0) (.cons (.var 3) (.cons (.var 6) .nil))))) .nil))) .nil)))
def d48 : Fdef := ⟨("_law_with", none), "_law_with", "_law_with", top 49, ["_law_row", "_law_begin", "_law_part_here", "_law_stop", "_law_many", "_law_number", "_law_wide"], ["_law_row", "_law_begin", "_law_part_here"], b48, [], []⟩
/-- 49: _law_width(_law_pot_here); 0 _law_pot_here -/
def b49 : CSs := (.cons (.ret (.sub (.lst false (.cons (.bin false .Add (.con (.int 3)) (.call 44 (.cons (.var 0) (.cons (.con (.int 6)) .nil)))) (.cons (.bin false .Sub (.bin false .Pow (.con (.int 10)) (.con (.int 18))) (.call 44 (.cons (.var 0) (.cons (.con (.int 2)) .nil)))) (.cons (.con (.int 2)) .nil)))) (.call 44 (.cons (.var 0) (.cons (.con (.int 3)) .nil))))) .nil)
def d49 : Fdef := ⟨("_law_width", none), "_law_width", "_law_width", top 50, ["_law_pot_here"], ["_law_pot_here"], b49, [], []⟩
/-- 50: _law_cell(_law_pot_here, _law_wide); 0 _law_pot_here, 1 _law_wide -/
def b50 : CSs := (.cons (.ret (.sub (.lst false (.cons (.call 44 (.cons (.var 0) (.cons (.blt .min2 (.cons (.var 1) (.cons (.con (.int 6)) .nil))) .nil))) (.cons (.call 44 (.cons (.var 0) (.cons (.blt .min2 (.cons (.var 1) (.cons (.con (.int 3)) .nil))) .nil))) (.cons (.bin false .Sub (.var 1) (.con (.int 1))) .nil)))) (.call 44 (.cons (.var 0) (.cons (.con (.int 3)) .nil))))) .nil)
def d50 : Fdef := ⟨("_law_cell", none), "_law_cell", "_law_cell", top 51, ["_law_pot_here", "_law_wide"], ["_law_pot_here", "_law_wide"], b50, [], []⟩
/-- 51: _law_much(_law_pot_here, _law_wide); 0 _law_pot_here, 1 _law_wide, 2 _law_far, 3 _law_beside -/
def b51 : CSs := (.cons (.par 2 3 (.bin false .Sub (.call 44 (.cons (.var 0) (.cons (.bin false .Pow (.con (.int 10)) (.con (.int 20))) .nil))) (.bin false .Pow (.con (.int 10)) (.con (.int 19)))) (.sub (.lst false (.cons (.neg (.con (.int 1))) (.cons (.var 1) (.cons (.bin false .Sub (.var 1) (.con (.int 1))) .nil)))) (.call 44 (.cons (.var 0) (.cons (.con (.int 3)) .nil))))) (.cons (.ret (.sub (.lst false (.cons (.call 44 (.cons (.var 0) (.cons (.con (.int 3)) .nil))) (.cons (.call 44 (.cons (.var 0) (.cons (.blt .min2 (.cons (.var 1) (.cons (.con (.int 6)) .nil))) .nil))) (.cons (.var 3) (.cons (.var 2) .nil))))) (.call 44 (.cons (.var 0) (.cons (.con (.int 4)) .nil))))) .nil))
def d51 : Fdef := ⟨("_law_much", none), "_law_much", "_law_much", top 52, ["_law_pot_here", "_law_wide", "_law_far", "_law_beside"], ["_law_pot_here", "_law_wide"], b51, [], []⟩
/-- 52: _law_written(_law_pot_here, _law_wide, _law_way); 0 _law_pot_here, 1 _law_wide, 2 _law_way, 3 _law_one, 4 _law_other -/
def b52 : CSs := (.cons (.par 3 4 (.call 50 (.cons (.var 0) (.cons (.var 1) .nil))) (.call 50 (.cons (.var 0) (.cons (.var 1) .nil)))) (.cons (.ite (.cmp .Lt (.var 2) (.con (.int 3))) (.cons (.ret (.tup (.cons (.con (.str "put")) (.cons (.var 3) (.cons (.call 51 (.cons (.var 0) (.cons (.var 1) .nil))) .nil))))) .nil) .nil) (.cons (.ite (.cmp .Eq (.var 2) (.con (.int 5))) (.cons (.ret (.tup (.cons (.con (.str "fill")) (.cons (.blt .min2 (.cons (.var 3) (.cons (.var 4) .nil))) (.cons (.bin false .Add (.blt .max2 (.cons (.var 3) (.cons (.var 4) .nil))) (.call 44 (.cons (.var 0) (.cons (.con (.int 2)) .nil)))) (.cons (.call 50 (.cons (.var 0) (.cons (.var 1) .nil))) .nil)))))) .nil) .nil) (.cons (.ret (.tup (.cons (.sub (.lst false (.cons (.con (.str "move")) (.cons (.con (.str "add")) (.cons (.con (.str "fill")) (.cons (.con (.str "from")) (.cons (.con (.str "into")) .nil)))))) (.bin false .Sub (.var 2) (.con (.int 3)))) (.cons (.var 3) (.cons (.var 4) .nil))))) .nil))))
def d52 : Fdef := ⟨("_law_written", none), "_law_written", "_law_written", top 53, ["_law_pot_here", "_law_wide", "_law_way", "_law_one", "_law_other"], ["_law_pot_here", "_law_wide", "_law_way"], b52, [], []⟩
/-- 53: _law_row_drawn(_law_pot_here, _law_wide, _law_here, _law_many, _law_forks); 0 _law_pot_here, 1 _law_wide, 2 _law_here, 3 _law_many, 4 _law_forks, 5 _law_way, 6 _law_onward, 7 _law_one, 8 _law_other -/
def b53 : CSs := (.cons (.asg (.nm 5) (.call 44 (.cons (.var 0) (.cons (.con (.int 17)) .nil)))) (.cons (.asg (.nm 6) (.bin false .Add (.bin false .Add (.var 2) (.con (.int 1))) (.call 44 (.cons (.var 0) (.cons (.bin false .Sub (.var 3) (.var 2)) .nil))))) (.cons (.par 7 8 (.call 50 (.cons (.var 0) (.cons (.var 1) .nil))) (.call 50 (.cons (.var 0) (.cons (.var 1) .nil)))) (.cons (.ite (.cmp .Lt (.var 5) (.con (.int 8))) (.cons (.ret (.call 52 (.cons (.var 0) (.cons (.var 1) (.cons (.var 5) .nil))))) .nil) .nil) (.cons (.ite (.cmp .In (.var 5) (.tup (.cons (.con (.int 8)) (.cons (.con (.int 9)) .nil)))) (.cons (.ret (.tup (.cons (.sub (.lst false (.cons (.con (.str "less")) (.cons (.con (.str "same")) .nil))) (.bin false .Sub (.var 5) (.con (.int 8)))) (.cons (.var 7) (.cons (.var 8) (.cons (.var 6) .nil)))))) .nil) .nil) (.cons (.ite (.bop .And (.cons (.cmp .Gt (.var 5) (.con (.int 11))) (.cons (.cmp .Lt (.var 5) (.con (.int 15))) (.cons (.cmp .Lt (.var 4) (.con (.int 5))) .nil)))) (.cons (.ret (.tup (.cons (.con (.str "fork")) (.cons (.var 6) .nil)))) .nil) .nil) (.cons (.ite (.cmp .Gt (.var 5) (.con (.int 14))) (.cons (.ret (.sub (.lst false (.cons (.tup (.cons (.con (.str "fail")) .nil)) (.cons (.tup (.cons (.con (.str "done")) .nil)) .nil))) (.bin false .Sub (.var 5) (.con (.int 15))))) .nil) .nil) (.cons (.ret (.tup (.cons (.con (.str "tell")) (.cons (.var 7) .nil)))) .nil))))))))
def d53 : Fdef := ⟨("_law_row_drawn", none), "_law_row_drawn", "_law_row_drawn", top 54, ["_law_pot_here", "_law_wide", "_law_here", "_law_many", "_law_forks", "_law_way", "_law_onward", "_law_one", "_law_other"], ["_law_pot_here", "_law_wide", "_law_here", "_law_many", "_law_forks"], b53, [], []⟩
/-- 54: _law_loop(_law_pot_here, _law_wide); 0 _law_pot_here, 1 _law_wide, 2 _law_found -/
def b54 : CSs := (.cons (.ite (.bop .Or (.cons (.cmp .Lt (.var 1) (.con (.int 3))) (.cons (.cmp .Gt (.call 44 (.cons (.var 0) (.cons (.con (.int 3)) .nil))) (.con (.int 0))) .nil))) (.cons (.ret (.lst true .nil)) .nil) .nil) (.cons (.asg (.nm 2) (.lst true (.cons (.tup (.cons (.con (.str "put")) (.cons (.con (.int 0)) (.cons (.con (.int 0)) .nil)))) (.cons (.tup (.cons (.con (.str "put")) (.cons (.con (.int 1)) (.cons (.con (.int 1)) .nil)))) (.cons (.tup (.cons (.con (.str "put")) (.cons (.con (.int 2)) (.cons (.bin false .Add (.con (.int 1)) (.call 44 (.cons (.var 0) (.cons (.con (.int 4)) .nil)))) .nil)))) (.cons (.tup (.cons (.con (.str "add")) (.cons (.con (.int 0)) (.cons (.con (.int 1)) .nil)))) .nil)))))) (.cons (.ite (.cmp .Eq (.call 44 (.cons (.var 0) (.cons (.con (.int 2)) .nil))) (.con (.int 0))) (.cons (.ex (.bm .append (.var 2) (.cons (.tup (.cons (.con (.str "fork")) (.cons (.sub (.lst false (.cons (.bin false .Add (.blt .len (.cons (.var 2) .nil)) (.con (.int 1))) (.cons (.bin false .Add (.blt .len (.cons (.var 2) .nil)) (.con (.int 2))) .nil))) (.call 44 (.cons (.var 0) (.cons (.con (.int 2)) .nil)))) .nil))) .nil))) .nil) .nil) (.cons (.ret (.bin true .Add (.var 2) (.lst false (.cons (.tup (.cons (.con (.str "less")) (.cons (.con (.int 0)) (.cons (.con (.int 2)) (.cons (.con (.int 3)) .nil))))) .nil)))) .nil))))
def d54 : Fdef := ⟨("_law_loop", none), "_law_loop", "_law_loop", top 55, ["_law_pot_here", "_law_wide", "_law_found"], ["_law_pot_here", "_law_wide"], b54, [], []⟩
/-- 55: _law_plan(_law_pot_here, _law_high); 0 _law_pot_here, 1 _law_high, 2 _law_wide, 3 _law_rows, 4 _law_many, 5 _law_round_forks, 6 _law_row, 7 _law_forks -/
def b55 : CSs := (.cons (.asg (.nm 2) (.call 49 (.cons (.var 0) .nil))) (.cons (.asg (.nm 3) (.call 54 (.cons (.var 0) (.cons (.var 2) .nil)))) (.cons (.par 4 5 (.bin false .Add (.blt .len (.cons (.var 3) .nil)) (.call 44 (.cons (.var 0) (.cons (.bin false .Add (.var 1) (.con (.int 1))) .nil)))) (.blt .len (.cons (.comp false (.var 6) (.nm 6) [("_law_row", 6)] (.seq (.var 3)) (.cons (.cmp .Eq (.sub (.var 6) (.con (.int 0))) (.con (.str "fork"))) .nil)) .nil))) (.cons (.while_ (.cmp .Lt (.blt .len (.cons (.var 3) .nil)) (.var 4)) (.cons (.asg (.nm 7) (.bin false .Add (.blt .len (.cons (.comp false (.var 6) (.nm 6) [("_law_row", 6)] (.seq (.var 3)) (.cons (.cmp .Eq (.sub (.var 6) (.con (.int 0))) (.con (.str "fork"))) .nil)) .nil)) (.bin false .Mult (.con (.int 3)) (.var 5)))) (.cons (.ex (.bm .append (.var 3) (.cons (.call 53 (.cons (.var 0) (.cons (.var 2) (.cons (.blt .len (.cons (.var 3) .nil)) (.cons (.var 4) (.cons (.var 7) .nil)))))) .nil))) .nil))) (.cons (.ret (.tup (.cons (.var 2) (.cons (.var 3) .nil)))) .nil)))))
def d55 : Fdef := ⟨("_law_plan", none), "_law_plan", "_law_plan", top 56, ["_law_pot_here", "_law_high", "_law_wide", "_law_rows", "_law_many", "_law_round_forks", "_law_row", "_law_forks"], ["_law_pot_here", "_law_high"], b55, [], []⟩
/-- 56: _law_comes(_law_rows, _law_one, _law_place); 0 _law_rows, 1 _law_one, 2 _law_place -/
def b56 : CSs := (.cons (.asg (.sub (.var 1) (.con (.str "place"))) (.var 2)) (.cons (.ite (.bop .Or (.cons (.cmp .Eq (.var 2) (.blt .len (.cons (.var 0) .nil))) (.cons (.cmp .Eq (.sub (.var 0) (.var 2)) (.tup (.cons (.con (.str "done")) .nil))) .nil))) (.cons (.asg (.sub (.var 1) (.con (.str "rest"))) (.con (.str "done"))) .nil) .nil) .nil))
def d56 : Fdef := ⟨("_law_comes", none), "_law_comes", "_law_comes", top 57, ["_law_rows", "_law_one", "_law_place"], ["_law_rows", "_law_one", "_law_place"], b56, [], []⟩
/-- 57: _law_begun(_law_wide, _law_rows); 0 _law_wide, 1 _law_rows, 2 _law_one -/
def b57 : CSs := (.cons (.asg (.nm 2) (.dct true [.inr "path", .inr "row", .inr "told", .inr "rest"] (.cons (.con (.str "")) (.cons (.lst false (.cons (.tup (.cons (.var 0) (.cons (.con (.int 0)) .nil))) .nil)) (.cons (.lst true .nil) (.cons (.con (.str "")) .nil)))))) (.cons (.ex (.call 56 (.cons (.var 1) (.cons (.var 2) (.cons (.con (.int 0)) .nil))))) (.cons (.ret (.var 2)) .nil)))
def d57 : Fdef := ⟨("_law_begun", none), "_law_begun", "_law_begun", top 58, ["_law_wide", "_law_rows", "_law_one"], ["_law_wide", "_law_rows"], b57, [], []⟩
/-- 58: _law_at(_law_row, _law_cell_here); 0 _law_row, 1 _law_cell_here -/
def b58 : CSs := (.cons (.ret (.sub (.sub (.call 46 (.cons (.var 0) (.cons (.var 1) (.cons (.bin false .Add (.var 1) (.con (.int 1))) .nil)))) (.con (.int 0))) (.con (.int 1)))) .nil)
def d58 : Fdef := ⟨("_law_at", none), "_law_at", "_law_at", top 59, ["_law_row", "_law_cell_here"], ["_law_row", "_law_cell_here"], b58, [], []⟩
/-- 59: _law_led(_law_row, _law_word, _law_things); 0 _law_row, 1 _law_word, 2 _law_things, 3 _law_goal, 4 _law_many, 5 _law_number -/
def b59 : CSs := (.cons (.asg (.nm 3) (.call 58 (.cons (.var 0) (.cons (.sub (.var 2) (.blt .int1 (.cons (.cmp .Eq (.var 1) (.con (.str "from"))) .nil))) .nil)))) (.cons (.ite (.not (.chain .LtE .Lt (.con (.int 0)) (.var 3) (.blt .sum (.cons (.comp false (.var 4) (.tup (.cons (.nm 4) (.cons (.nm 5) .nil))) [("_law_many", 4), ("_law_number", 5)] (.seq (.var 0)) .nil) .nil)))) (.cons (.ret (.con .non)) .nil) .nil) (.cons (.ret (.ite (.cmp .Eq (.var 1) (.con (.str "from"))) (.tup (.cons (.sub (.var 2) (.con (.int 0))) (.cons (.call 58 (.cons (.var 0) (.cons (.var 3) .nil))) .nil))) (.tup (.cons (.var 3) (.cons (.call 58 (.cons (.var 0) (.cons (.sub (.var 2) (.con (.int 1))) .nil))) .nil))))) .nil)))
def d59 : Fdef := ⟨("_law_led", none), "_law_led", "_law_led", top 60, ["_law_row", "_law_word", "_law_things", "_law_goal", "_law_many", "_law_number"], ["_law_row", "_law_word", "_law_things"], b59, [], []⟩
/-- 60: _law_put_there(_law_row, _law_word, _law_things); 0 _law_row, 1 _law_word, 2 _law_things -/
def b60 : CSs := (.cons (.ite (.cmp .Eq (.var 1) (.con (.str "put"))) (.cons (.ret (.tup (.cons (.sub (.var 2) (.con (.int 0))) (.cons (.sub (.var 2) (.con (.int 1))) .nil)))) .nil) .nil) (.cons (.ite (.cmp .Eq (.var 1) (.con (.str "move"))) (.cons (.ret (.tup (.cons (.sub (.var 2) (.con (.int 0))) (.cons (.call 58 (.cons (.var 0) (.cons (.sub (.var 2) (.con (.int 1))) .nil))) .nil)))) .nil) .nil) (.cons (.ite (.cmp .Eq (.var 1) (.con (.str "add"))) (.cons (.ret (.tup (.cons (.sub (.var 2) (.con (.int 0))) (.cons (.bin false .Add (.call 58 (.cons (.var 0) (.cons (.sub (.var 2) (.con (.int 0))) .nil))) (.call 58 (.cons (.var 0) (.cons (.sub (.var 2) (.con (.int 1))) .nil)))) .nil)))) .nil) .nil) (.cons (.ret (.call 59 (.cons (.var 0) (.cons (.var 1) (.cons (.var 2) .nil))))) .nil))))
def d60 : Fdef := ⟨("_law_put_there", none), "_law_put_there", "_law_put_there", top 61, ["_law_row", "_law_word", "_law_things"], ["_law_row", "_law_word", "_law_things"], b60, [], []⟩
/-- 61: _law_does(_law_one, _law_word, _law_things); 0 _law_one, 1 _law_word, 2 _law_things, 3 _law_row, 4 _law_part_here, 5 _law_found -/
def b61 : CSs := (.cons (.asg (.nm 3) (.sub (.var 0) (.con (.str "row")))) (.cons (.ite (.cmp .Eq (.var 1) (.con (.str "tell"))) (.cons (.ex (.bm .append (.sub (.var 0) (.con (.str "told"))) (.cons (.call 58 (.cons (.var 3) (.cons (.sub (.var 2) (.con (.int 0))) .nil))) .nil))) .nil) (.cons (.ite (.cmp .Eq (.var 1) (.con (.str "fill"))) (.cons (.asg (.nm 4) (.ite (.cmp .Lt (.sub (.var 2) (.con (.int 0))) (.sub (.var 2) (.con (.int 1)))) (.lst false (.cons (.tup (.cons (.bin false .Sub (.sub (.var 2) (.con (.int 1))) (.sub (.var 2) (.con (.int 0)))) (.cons (.call 58 (.cons (.var 3) (.cons (.sub (.var 2) (.con (.int 2))) .nil))) .nil))) .nil)) (.lst false .nil))) (.cons (.asg (.sub (.var 0) (.con (.str "row"))) (.call 48 (.cons (.var 3) (.cons (.sub (.var 2) (.con (.int 0))) (.cons (.var 4) .nil))))) .nil)) (.cons (.asg (.nm 5) (.call 60 (.cons (.var 3) (.cons (.var 1) (.cons (.var 2) .nil))))) (.cons (.ite (.cmp .Is (.var 5) (.con .non)) (.cons (.ret (.con (.bl false))) .nil) .nil) (.cons (.asg (.sub (.var 0) (.con (.str "row"))) (.call 48 (.cons (.var 3) (.cons (.sub (.var 5) (.con (.int 0))) (.cons (.lst false (.cons (.tup (.cons (.con (.int 1)) (.cons (.sub (.var 5) (.con (.int 1))) .nil))) .nil)) .nil))))) .nil)))) .nil)) (.cons (.ret (.con (.bl true))) .nil)))
def d61 : Fdef := ⟨("_law_does", none), "_law_does", "_law_does", top 62, ["_law_one", "_law_word", "_law_things", "_law_row", "_law_part_here", "_law_found"], ["_law_one", "_law_word", "_law_things"], b61, [], []⟩
/-- 62: _law_turn(_law_rows, _law_one); 0 _law_rows, 1 _law_one, 2 _law_row, 3 _law_onward, 4 _law_word, 5 _law_things, 6 _law_other, 7 _law_first, 8 _law_second, 9 _law_goes -/
def b62 : CSs := (.cons (.par 2 3 (.sub (.var 0) (.sub (.var 1) (.con (.str "place")))) (.bin false .Add (.sub (.var 1) (.con (.str "place"))) (.con (.int 1)))) (.cons (.par 4 5 (.sub (.var 2) (.con (.int 0))) (.slc (.var 2) (.some (.con (.int 1))) .no)) (.cons (.ite (.cmp .Eq (.var 4) (.con (.str "fork"))) (.cons (.asg (.nm 6) (.dct true [.inr "path", .inr "row", .inr "told", .inr "rest"] (.cons (.bin false .Add (.sub (.var 1) (.con (.str "path"))) (.con (.str "y"))) (.cons (.blt (.list false) (.cons (.sub (.var 1) (.con (.str "row"))) .nil)) (.cons (.blt (.list true) (.cons (.sub (.var 1) (.con (.str "told"))) .nil)) (.cons (.con (.str "")) .nil)))))) (.cons (.asg (.sub (.var 1) (.con (.str "path"))) (.bin false .Add (.sub (.var 1) (.con (.str "path"))) (.con (.str "e")))) (.cons (.ex (.call 56 (.cons (.var 0) (.cons (.var 1) (.cons (.var 3) .nil))))) (.cons (.ex (.call 56 (.cons (.var 0) (.cons (.var 6) (.cons (.sub (.var 5) (.con (.int 0))) .nil))))) (.cons (.ret (.var 6)) .nil))))) .nil) (.cons (.ite (.cmp .In (.var 4) (.tup (.cons (.con (.str "less")) (.cons (.con (.str "same")) .nil)))) (.cons (.par 7 8 (.call 58 (.cons (.sub (.var 1) (.con (.str "row"))) (.cons (.sub (.var 5) (.con (.int 0))) .nil))) (.call 58 (.cons (.sub (.var 1) (.con (.str "row"))) (.cons (.sub (.var 5) (.con (.int 1))) .nil)))) (.cons (.asg (.nm 9) (.ite (.cmp .Eq (.var 4) (.con (.str "less"))) (.cmp .Lt (.var 7) (.var 8)) (.cmp .Eq (.var 7) (.var 8)))) (.cons (.ex (.call 56 (.cons (.var 0) (.cons (.var 1) (.cons (.ite (.var 9) (.sub (.var 5) (.con (.int 2))) (.var 3)) .nil))))) .nil))) (.cons (.ite (.bop .Or (.cons (.cmp .Eq (.var 4) (.con (.str "fail"))) (.cons (.not (.call 61 (.cons (.var 1) (.cons (.var 4) (.cons (.var 5) .nil))))) .nil))) (.cons (.asg (.sub (.var 1) (.con (.str "rest"))) (.con (.str "failed"))) .nil) (.cons (.ex (.call 56 (.cons (.var 0) (.cons (.var 1) (.cons (.var 3) .nil))))) .nil)) .nil)) (.cons (.ret (.con .non)) .nil)))))
def d62 : Fdef := ⟨("_law_turn", none), "_law_turn", "_law_turn", top 63, ["_law_rows", "_law_one", "_law_row", "_law_onward", "_law_word", "_law_things", "_law_other", "_law_first", "_law_second", "_law_goes"], ["_law_rows", "_law_one"], b62, [], []⟩
/-- 63: _law_due(_law_wide, _law_rows, _law_trail); 0 _law_wide, 1 _law_rows, 2 _law_trail, 3 _law_one, 4 _law_used, 5 _law_other -/
def b63 : CSs := (.cons (.par 3 4 (.call 57 (.cons (.var 0) (.cons (.var 1) .nil))) (.con (.int 0))) (.cons (.while_ (.bop .And (.cons (.cmp .Eq (.sub (.var 3) (.con (.str "rest"))) (.con (.str ""))) (.cons (.bop .Or (.cons (.cmp .Lt (.var 4) (.blt .len (.cons (.var 2) .nil))) (.cons (.cmp .NotEq (.sub (.sub (.var 1) (.sub (.var 3) (.con (.str "place")))) (.con (.int 0))) (.con (.str "fork"))) .nil))) .nil))) (.cons (.asg (.nm 5) (.call 62 (.cons (.var 1) (.cons (.var 3) .nil)))) (.cons (.ite (.cmp .IsNot (.var 5) (.con .non)) (.cons (.asg (.nm 3) (.ite (.cmp .Eq (.sub (.var 2) (.var 4)) (.con (.str "y"))) (.var 5) (.var 3))) (.cons (.asg (.nm 4) (.bin false .Add (.var 4) (.con (.int 1)))) .nil)) .nil) .nil))) (.cons (.ite (.cmp .Lt (.var 4) (.blt .len (.cons (.var 2) .nil))) (.cons (.ret (.con (.str "left"))) .nil) .nil) (.cons (.ret (.tup (.cons (.ite (.cmp .NotEq (.sub (.var 3) (.con (.str "rest"))) (.con (.str ""))) (.sub (.var 3) (.con (.str "rest"))) (.con (.str "fork"))) (.cons (.sub (.var 3) (.con (.str "told"))) (.cons (.sub (.var 3) (.con (.str "row"))) .nil))))) .nil))))
def d63 : Fdef := ⟨("_law_due", none), "_law_due", "_law_due", top 64, ["_law_wide", "_law_rows", "_law_trail", "_law_one", "_law_used", "_law_other"], ["_law_wide", "_law_rows", "_law_trail"], b63, [], []⟩
/-- 64: _law_told(_law_plan_here, _law_trail); 0 _law_plan_here, 1 _law_trail, 2 _law_told_here -/
def b64 : CSs := (.cons (.asg (.nm 2) (.con .non)) (.cons (.tryN (.cons (.asg (.nm 2) (.call 35 (.cons (.var 0) (.cons (.var 1) .nil)))) .nil) 7 (.cons (.asg (.nm 2) (.con (.str "left"))) .nil)) (.cons (.ret (.var 2)) .nil)))
def d64 : Fdef := ⟨("_law_told", none), "_law_told", "_law_told", top 65, ["_law_plan_here", "_law_trail", "_law_told_here"], ["_law_plan_here", "_law_trail"], b64, [], []⟩
/-- 65: _law_right(_law_pot_here, _law_plan_here, _law_wide, _law_rows); 0 _law_pot_here, 1 _law_plan_here, 2 _law_wide, 3 _law_rows, 4 _law_trail, 5 _law_k, 6 _law_way, 7 _law_due_here, 8 _law_told_here -/
def b65 : CSs := (.cons (.asg (.nm 4) (.bm .join (.con (.str "")) (.cons (.comp false (.sub (.con (.str "ey")) (.call 44 (.cons (.var 0) (.cons (.con (.int 2)) .nil)))) (.nm 5) [("_law_k", 5)] (.range1 (.call 44 (.cons (.var 0) (.cons (.con (.int 7)) .nil)))) .nil) .nil))) (.cons (.for_ (.nm 6) (.seq (.lst false (.cons (.var 4) (.cons (.bin false .Mult (.con (.str "e")) (.blt .len (.cons (.var 4) .nil))) (.cons (.slc (.var 4) .no (.some (.con (.int 1)))) .nil))))) (.cons (.par 7 8 (.call 63 (.cons (.var 2) (.cons (.var 3) (.cons (.var 6) .nil)))) (.call 64 (.cons (.var 1) (.cons (.var 6) .nil)))) (.cons (.ite (.cmp .NotEq (.blt .repr (.cons (.var 8) .nil)) (.blt .repr (.cons (.var 7) .nil))) (.cons (.ret (.con (.bl false))) .nil) .nil) (.cons (.ite (.cmp .NotEq (.var 8) (.con (.str "left"))) (.cons (.ex (.bm .append (.sub (.var 8) (.con (.int 1))) (.cons (.con .non) .nil))) (.cons (.ex (.bm .clear (.sub (.var 8) (.con (.int 2))) .nil)) (.cons (.ite (.cmp .NotEq (.blt .repr (.cons (.kcall 35 0 (.cons (.var 6) (.cons (.var 1) .nil))) .nil)) (.blt .repr (.cons (.var 7) .nil))) (.cons (.ret (.con (.bl false))) .nil) .nil) .nil))) .nil) .nil)))) (.cons (.ret (.bop .And (.cons (.cmp .Eq (.meth (.var 1) 16 .nil) (.var 3)) (.cons (.cmp .Eq (.meth (.var 1) 0 .nil) (.var 2)) .nil)))) .nil)))
def d65 : Fdef := ⟨("_law_right", none), "_law_right", "_law_right", top 66, ["_law_pot_here", "_law_plan_here", "_law_wide", "_law_rows", "_law_trail", "_law_k", "_law_way", "_law_due_here", "_law_told_here"], ["_law_pot_here", "_law_plan_here", "_law_wide", "_law_rows"], b65, [], []⟩
/-- 66: law(_law_script); 0 _law_script, 1 _law_k, 2 _law_pot_here, 3 _law_wide, 4 _law_rows, 5 _law_plan_here, 6 _law_turn_here -/
def b66 : CSs := (.cons (.for_ (.nm 1) (.range1 (.blt .max2 (.cons (.con (.int 1)) (.cons (.blt .min2 (.cons (.con (.int 4)) (.cons (.blt .len (.cons (.var 0) .nil)) .nil))) .nil)))) (.cons (.asg (.nm 2) (.call 43 (.cons (.var 0) (.cons (.var 1) .nil)))) (.cons (.asg (.tup (.cons (.nm 3) (.cons (.nm 4) .nil))) (.call 55 (.cons (.var 2) (.cons (.con (.int 14)) .nil)))) (.cons (.fz 4) (.cons (.asg (.nm 5) (.new 11 (.cons (.var 3) (.cons (.blt (.list false) (.cons (.var 4) .nil)) .nil)))) (.cons (.for_ (.nm 6) (.range1 (.con (.int 2))) (.cons (.ite (.not (.call 65 (.cons (.var 2) (.cons (.var 5) (.cons (.var 3) (.cons (.var 4) .nil)))))) (.cons (.ret (.con (.bl false))) .nil) .nil) .nil)) (.cons (.ite (.cmp .NotEq (.blt .repr (.cons (.call 35 (.cons (.var 5) (.cons (.con (.str "")) .nil))) .nil)) (.blt .repr (.cons (.call 63 (.cons (.var 3) (.cons (.var 4) (.cons (.con (.str "")) .nil)))) .nil))) (.cons (.ret (.con (.bl false))) .nil) .nil) .nil))))))) (.cons (.ret (.con (.bl true))) .nil))
def d66 : Fdef := ⟨("law", none), "law", "law", top 67, ["_law_script", "_law_k", "_law_pot_here", "_law_wide", "_law_rows", "_law_plan_here", "_law_turn_here"], ["_law_script"], b66, [], []⟩
def x0 : Xdef := ⟨6, 9, "ForkError", "self", "row", ⟨("NoProgram", some "__init__"), "__init__", "NoProgram.__init__", inClass (top 8) 0, [], [], .nil, [], []⟩⟩
def T : Tbl where
  fs := [d0, d1, d2, d3, d4, d5, d6, d7, d8, d9, d10, d11, d12, d13, d14, d15, d16, d17, d18, d19, d20, d21, d22, d23, d24, d25, d26, d27, d28, d29, d30, d31, d32, d33, d34, d35, d36, d37, d38, d39, d40, d41, d42, d43, d44, d45, d46, d47, d48, d49, d50, d51, d52, d53, d54, d55, d56, d57, d58, d59, d60, d61, d62, d63, d64, d65, d66]
  cls := ["ForkError", "NoSize", "NoCell", "NoNumber", "NoStretch", "NoRuns", "NoProgram", "NoPath", "TooMany", "Memory", "Lone", "Program"]
  flds := ["wide", "pairs", "all_rows", "cells", "numbers", "rested", "next_row", "own_size", "own_rows", "row"]
  mths := ["size", "at", "runs", "lay", "put", "fill", "bring", "copied", "come_to", "rest", "is_at_fork", "parted", "goal_of", "change", "lead", "step", "rows"]
  methL := [((9, 0), 13), ((9, 1), 14), ((9, 2), 15), ((9, 3), 16), ((9, 4), 17), ((9, 5), 18), ((9, 6), 19), ((9, 7), 20), ((10, 8), 26), ((10, 9), 27), ((10, 10), 28), ((10, 11), 29), ((10, 12), 30), ((10, 13), 31), ((10, 14), 32), ((10, 15), 33), ((11, 0), 39), ((11, 16), 40)]
  initL := [(9, 12), (10, 25), (11, 38)]
  lenL := [(9, 22), (11, 42)]
  eqL := [(9, 21), (11, 41)]
  excL := [(0, none), (1, none), (2, none), (3, none), (4, none), (5, none), (6, some 9), (7, none)]
  subL := [((0, 7), false), ((2, 7), false), ((3, 7), false), ((7, 7), true), ((6, 7), false), ((5, 7), false), ((1, 7), false), ((4, 7), false)]
  isXL := []
  isIL := [((9, .own 9), true), ((9, .own 11), false), ((9, .ty "bool"), false), ((9, .ty "int"), false), ((9, .ty "list"), false), ((9, .ty "str"), false), ((9, .ty "tuple"), false), ((10, .own 9), false), ((10, .own 11), false), ((10, .ty "bool"), false), ((10, .ty "int"), false), ((10, .ty "list"), false), ((10, .ty "str"), false), ((10, .ty "tuple"), false), ((11, .own 9), false), ((11, .own 11), true), ((11, .ty "bool"), false), ((11, .ty "int"), false), ((11, .ty "list"), false), ((11, .ty "str"), false), ((11, .ty "tuple"), false)]
  gdsL := [("SHAPES", [("put", .str "cn"), ("move", .str "cc"), ("add", .str "cc"), ("fill", .str "bec"), ("from", .str "cc"), ("into", .str "cc"), ("less", .str "ccr"), ("same", .str "ccr"), ("tell", .str "c"), ("fork", .str "r"), ("fail", .str ""), ("done", .str "")])]
  gloL := [("LARGEST", .int (1000000000000000000)), ("DONE", .str "done"), ("FAILED", .str "failed"), ("ELDER", .str "e"), ("YOUNGER", .str "y"), ("FORK", .str "fork"), ("NO_ROW", .int (-1))]
def xs : List Xdef := [x0]
end Fk
end
section
set_option maxHeartbeats 0
namespace Fk
open PySem PySem.Spec PyProof.Rows L2 PySem.W HandSHeadRun PySem.Calls
abbrev R : PySem.W.OpenRow := PySem.W.OpenLaw.row PySem.Challenge.rw_forkthrift_k81_whole_paths_gone_alone
def asL : List Addr := [3, 6, 4, 21, 31, 44, 56, 68, 80, 92, 111, 123, 142, 152, 159, 166, 173, 178, 185, 192, 199, 206, 213, 220, 316, 325, 398, 407, 415, 416, 423, 428, 473, 484, 491, 498, 505, 512, 517, 524, 531, 538, 545, 552, 559, 564, 571, 578, 585, 590, 597, 604, 611, 618, 625, 630, 637, 0, 20, 30, 43, 55, 67, 79, 91, 110, 122, 141, 151, 158, 165, 172, 177, 184, 191, 198, 205, 212, 219, 315, 324, 397, 406, 414, 408, 422, 427, 472, 483, 490, 497, 504, 511, 516, 523, 530, 537, 544, 551, 558, 563, 570, 577, 584, 589, 596, 603, 610, 617, 624, 629, 636, 15, 16, 17, 18, 19, 29, 32, 42, 54, 66, 78, 90, 108, 109, 121, 139, 140, 143, 146, 147, 148, 149, 150, 153, 154, 155, 156, 157, 160, 161, 162, 163, 164, 167, 168, 169, 170, 171, 174, 175, 176, 179, 180, 181, 182, 183, 186, 187, 188, 189, 190, 193, 194, 195, 196, 197, 200, 201, 202, 203, 204, 207, 208, 209, 210, 211, 214, 215, 216, 217, 218, 235, 242, 249, 256, 263, 270, 277, 285, 292, 299, 306, 313, 314, 317, 318, 321, 322, 323, 339, 346, 353, 360, 367, 374, 381, 388, 395, 396, 399, 400, 403, 404, 405, 409, 410, 411, 412, 413, 417, 418, 419, 420, 421, 424, 425, 426, 442, 449, 456, 463, 470, 471, 474, 475, 478, 479, 480, 481, 482, 485, 486, 487, 488, 489, 492, 493, 494, 495, 496, 499, 500, 501, 502, 503, 506, 507, 508, 509, 510, 513, 514, 515, 518, 519, 520, 521, 522, 525, 526, 527, 528, 529, 532, 533, 534, 535, 536, 539, 540, 541, 542, 543, 546, 547, 548, 549, 550, 553, 554, 555, 556, 557, 560, 561, 562, 565, 566, 567, 568, 569, 572, 573, 574, 575, 576, 579, 580, 581, 582, 583, 586, 587, 588, 591, 592, 593, 594, 595, 598, 599, 600, 601, 602, 605, 606, 607, 608, 609, 612, 613, 614, 615, 616, 619, 620, 621, 622, 623, 626, 627, 628, 631, 632, 633, 634, 635, 107, 138, 234, 228, 241, 248, 255, 262, 269, 276, 284, 278, 291, 298, 305, 312, 338, 345, 352, 359, 366, 373, 380, 387, 394, 441, 448, 455, 462, 469, 1, 2]
abbrev hk : PySem.W.Hook where
  α := AlF
  obs := fun s => obsF T xs (He.frG s.heap.get? asL)
  val := fun w => valF T xs w
  says := fun w h => ∃ K : PySem.W.Frag, K.In h ∧ SaysF T xs w K
  of := fun _ _ e => ⟨_, He.frG_in, e⟩
  keeps := fun _ _ _ ⟨K, hK, c⟩ k => ⟨K, PySem.W.Frag.In.keeps hK k, c⟩
def ob (s : PySem.W.SharedT) : AlF := obsF T xs (He.frG (HandSHeadRun.getT s) asL)
theorem ob_eq (s : PySem.W.SharedT) : ob s = hk.obs s.abs := by
  have e : HandSHeadRun.getT s = s.abs.heap.get? := funext (HandSHeadRun.getT_eq s)
  show obsF T xs (He.frG (HandSHeadRun.getT s) asL) = _
  rw [e]
def loose : List PySem.Str := "_wall" :: "ForkError" :: "NoSize" :: "NoCell" :: "NoNumber" :: "NoStretch" :: "NoRuns" :: "NoProgram" :: "NoPath" :: "TooMany" :: "LARGEST" :: "is_number" :: "is_whole" :: "is_size" :: "is_run" :: "are_runs" :: "joined" :: "cut_out" :: "want_size" :: "want_number" :: "want_cell" :: "want_stretch" :: "Memory" :: "memory_of" :: "MOST" :: "DONE" :: "FAILED" :: "ELDER" :: "YOUNGER" :: "FORK" :: "NO_ROW" :: "Lone" :: "is_path" :: "gone_alone" :: "SHAPES" :: "fits" :: "is_program_row" :: "Program" :: "_law_pot" :: "_law_take" :: "_law_among" :: "_law_part" :: "_law_joined" :: "_law_with" :: "_law_width" :: "_law_cell" :: "_law_much" :: "_law_written" :: "_law_row_drawn" :: "_law_loop" :: "_law_plan" :: "_law_comes" :: "_law_begun" :: "_law_at" :: "_law_led" :: "_law_put_there" :: "_law_does" :: "_law_turn" :: "_law_due" :: "_law_told" :: "_law_right" :: []
def PA (w : World) : Prop := ∀ os : OsState, (endF (stepQ (denQ tabQ) R.prog w) 9000 R.prog w os).map (fun s => (looksF R.prog (boot_heap w.params) s.abs, seenQ (PySem.W.view R.prog [67]) loose (importedModules R.prog.main.body) (fun s => xlAt (PySem.W.view R.prog [67]) [] s && recOk R.toRowW.records s) s.abs)) = some (true, openGood (PySem.W.view R.prog [67]) loose)
def PC (w : World) : Prop := ∀ os : OsState, (endF (stepQ (denQ tabQ) R.prog w) 9000 R.prog w os).map (fun s => ob s) = some (hk.val w)
theorem mapABC {α β γ δ : Type} {x : Option α} {f : α → β} {f2 : α → γ} {g : α → δ} {b : β} {b2 : γ} {c : δ} (h : x.map (fun s => (f s, f2 s)) = some (b, b2)) (h2 : x.map g = some c) : x.map (fun s => (f s, f2 s, g s)) = some (b, b2, c) := by
  cases x with
  | none => cases h
  | some a => cases h; cases h2; rfl
end Fk
end
section
set_option maxHeartbeats 0
open PySem PySem.W PySem.Calls PyProof.Rows
theorem Fk.fin (hfd : ∀ fd ∈ Fk.T.fs, Fk.FdP Fk.T fd) (hxd : ∀ x ∈ Fk.xs, Fk.XdP Fk.T x) (hpl : ∀ ns : List Int, ns.length ≤ 63 → (∀ k ∈ ns, PySem.Builtin.Int.intBits k ≤ 1048576) → Fk.callN Fk.T 14 66 [.ro (ns.map Fk.D.int)] Fk.noM (fun r _ => r = .bl true) Fk.noX) (hrun : ∀ w : World, HandSHeadRun.RunEq Fk.R (PySem.W.view Fk.R.prog [67]) Fk.hk Fk.ob 9000 Fk.loose w) : PySem.Challenge.rw_forkthrift_k81_whole_paths_gone_alone.Holds := by
  w_on; o_law
  refine HandSHeadRun.head_any (r := OpenLaw.row PySem.Challenge.rw_forkthrift_k81_whole_paths_gone_alone) (q := view (OpenLaw.row PySem.Challenge.rw_forkthrift_k81_whole_paths_gone_alone).prog [67]) (H := Fk.hk) (ob := Fk.ob) (M := 9000) (loose := Fk.loose) (d := HandSHeadRun.topDef (OpenLaw.row PySem.Challenge.rw_forkthrift_k81_whole_paths_gone_alone).prog 67) (kwd := []) Fk.ob_eq
    (by kernel_rfl) (fun s => by kernel_rfl) hrun (by kernel_rfl) (by kernel_rfl) (by kernel_rfl) (by rfl) (by first | assumption | decide +kernel) (by decide +kernel) ⟨rfl, rfl, rfl, rfl, rfl, by decide +kernel⟩ ?hw ?hc
  case hw => w_witness2
  case hc => exact Fk.walk_F (m := 4) (l := PySem.Challenge.rw_forkthrift_k81_whole_paths_gone_alone) (n := 63) (N := 14) (x := "_law_script") (L := 66) (fl := Fk.d66) rfl (by decide) (by kernel_rfl) ⟨rfl, by decide, by decide⟩ rfl (by kernel_rfl) rfl hfd hxd hpl
end
section
set_option maxHeartbeats 0
namespace Fk
open PySem PySem.Spec PyProof.Rows L2 PySem.W HandSHeadRun PySem.Calls
theorem runA_false (w : World) : PA (w.withFollow "special-get-raises" false) := by
  intro os
  kernel_rfl
theorem runA_true (w : World) : PA (w.withFollow "special-get-raises" true) := by
  intro os
  kernel_rfl
theorem runC_false (w : World) : PC (w.withFollow "special-get-raises" false) := by
  intro os
  kernel_rfl
theorem runC_true (w : World) : PC (w.withFollow "special-get-raises" true) := by
  intro os
  kernel_rfl
theorem runA (w : World) : PA w := PySem.W.byRow2 "special-get-raises" (P := fun w => PA w) runA_false runA_true w
theorem runC (w : World) : PC w := PySem.W.byRow2 "special-get-raises" (P := fun w => PC w) runC_false runC_true w
theorem run (w : World) : HandSHeadRun.RunEq R (PySem.W.view R.prog [67]) hk ob 9000 loose w := fun os => mapABC (runA w os) (runC w os)
end Fk
end
section
set_option maxHeartbeats 0
namespace Fk
open PySem PySem.Spec PyProof.Rows L2
theorem c0 : ckSs T d0.N d0.body (defScope d0.st) (defScope d0.st) true (defBody d0.st) = true := by kernel_rfl
theorem p0 : FdP T d0 := ⟨⟨by kernel_rfl, by kernel_rfl, by kernel_rfl, by decide +kernel, by kernel_rfl, by decide +kernel, by decide +kernel⟩, c0, rfl, .inl ⟨rfl, rfl, fun _ _ _ _ _ _ us hl => match us, hl with | [_], _ => rfl⟩⟩
theorem c1 : ckSs T d1.N d1.body (defScope d1.st) (defScope d1.st) true (defBody d1.st) = true := by kernel_rfl
theorem p1 : FdP T d1 := ⟨⟨by kernel_rfl, by kernel_rfl, by kernel_rfl, by decide +kernel, by kernel_rfl, by decide +kernel, by decide +kernel⟩, c1, rfl, .inl ⟨rfl, rfl, fun _ _ _ _ _ _ us hl => match us, hl with | [_], _ => rfl⟩⟩
theorem c2 : ckSs T d2.N d2.body (defScope d2.st) (defScope d2.st) true (defBody d2.st) = true := by kernel_rfl
theorem p2 : FdP T d2 := ⟨⟨by kernel_rfl, by kernel_rfl, by kernel_rfl, by decide +kernel, by kernel_rfl, by decide +kernel, by decide +kernel⟩, c2, rfl, .inl ⟨rfl, rfl, fun _ _ _ _ _ _ us hl => match us, hl with | [_, _, _], _ => rfl⟩⟩
theorem c3 : ckSs T d3.N d3.body (defScope d3.st) (defScope d3.st) true (defBody d3.st) = true := by kernel_rfl
theorem p3 : FdP T d3 := ⟨⟨by kernel_rfl, by kernel_rfl, by kernel_rfl, by decide +kernel, by kernel_rfl, by decide +kernel, by decide +kernel⟩, c3, rfl, .inl ⟨rfl, rfl, fun _ _ _ _ _ _ us hl => match us, hl with | [_], _ => rfl⟩⟩
theorem c4 : ckSs T d4.N d4.body (defScope d4.st) (defScope d4.st) true (defBody d4.st) = true := by kernel_rfl
theorem p4 : FdP T d4 := ⟨⟨by kernel_rfl, by kernel_rfl, by kernel_rfl, by decide +kernel, by kernel_rfl, by decide +kernel, by decide +kernel⟩, c4, rfl, .inl ⟨rfl, rfl, fun _ _ _ _ _ _ us hl => match us, hl with | [_], _ => rfl⟩⟩
theorem c5 : ckSs T d5.N d5.body (defScope d5.st) (defScope d5.st) true (defBody d5.st) = true := by kernel_rfl
theorem p5 : FdP T d5 := ⟨⟨by kernel_rfl, by kernel_rfl, by kernel_rfl, by decide +kernel, by kernel_rfl, by decide +kernel, by decide +kernel⟩, c5, rfl, .inl ⟨rfl, rfl, fun _ _ _ _ _ _ us hl => match us, hl with | [_, _], _ => rfl⟩⟩
theorem c6 : ckSs T d6.N d6.body (defScope d6.st) (defScope d6.st) true (defBody d6.st) = true := by kernel_rfl
theorem p6 : FdP T d6 := ⟨⟨by kernel_rfl, by kernel_rfl, by kernel_rfl, by decide +kernel, by kernel_rfl, by decide +kernel, by decide +kernel⟩, c6, rfl, .inl ⟨rfl, rfl, fun _ _ _ _ _ _ us hl => match us, hl with | [_], _ => rfl⟩⟩
theorem c7 : ckSs T d7.N d7.body (defScope d7.st) (defScope d7.st) true (defBody d7.st) = true := by kernel_rfl
theorem p7 : FdP T d7 := ⟨⟨by kernel_rfl, by kernel_rfl, by kernel_rfl, by decide +kernel, by kernel_rfl, by decide +kernel, by decide +kernel⟩, c7, rfl, .inl ⟨rfl, rfl, fun _ _ _ _ _ _ us hl => match us, hl with | [_, _, _], _ => rfl⟩⟩
theorem c8 : ckSs T d8.N d8.body (defScope d8.st) (defScope d8.st) true (defBody d8.st) = true := by kernel_rfl
theorem p8 : FdP T d8 := ⟨⟨by kernel_rfl, by kernel_rfl, by kernel_rfl, by decide +kernel, by kernel_rfl, by decide +kernel, by decide +kernel⟩, c8, rfl, .inl ⟨rfl, rfl, fun _ _ _ _ _ _ us hl => match us, hl with | [_], _ => rfl⟩⟩
theorem c9 : ckSs T d9.N d9.body (defScope d9.st) (defScope d9.st) true (defBody d9.st) = true := by kernel_rfl
theorem p9 : FdP T d9 := ⟨⟨by kernel_rfl, by kernel_rfl, by kernel_rfl, by decide +kernel, by kernel_rfl, by decide +kernel, by decide +kernel⟩, c9, rfl, .inl ⟨rfl, rfl, fun _ _ _ _ _ _ us hl => match us, hl with | [_], _ => rfl⟩⟩
theorem c10 : ckSs T d10.N d10.body (defScope d10.st) (defScope d10.st) true (defBody d10.st) = true := by kernel_rfl
theorem p10 : FdP T d10 := ⟨⟨by kernel_rfl, by kernel_rfl, by kernel_rfl, by decide +kernel, by kernel_rfl, by decide +kernel, by decide +kernel⟩, c10, rfl, .inl ⟨rfl, rfl, fun _ _ _ _ _ _ us hl => match us, hl with | [_, _], _ => rfl⟩⟩
theorem c11 : ckSs T d11.N d11.body (defScope d11.st) (defScope d11.st) true (defBody d11.st) = true := by kernel_rfl
theorem p11 : FdP T d11 := ⟨⟨by kernel_rfl, by kernel_rfl, by kernel_rfl, by decide +kernel, by kernel_rfl, by decide +kernel, by decide +kernel⟩, c11, rfl, .inl ⟨rfl, rfl, fun _ _ _ _ _ _ us hl => match us, hl with | [_, _, _], _ => rfl⟩⟩
theorem c12 : ckSs T d12.N d12.body (defScope d12.st) (defScope d12.st) true (defBody d12.st) = true := by kernel_rfl
theorem p12 : FdP T d12 := ⟨⟨by kernel_rfl, by kernel_rfl, by kernel_rfl, by decide +kernel, by kernel_rfl, by decide +kernel, by decide +kernel⟩, c12, rfl, .inr ⟨(fun z => by cases z), ⟨2, rfl, fun _ _ _ _ _ _ us ks hu hk => match us, hu, ks, hk with | [_, _], _, [_], _ => ⟨_, _, _, _, _, _, rfl, rfl, rfl⟩⟩, (fun _ h => nomatch h)⟩⟩
theorem c13 : ckSs T d13.N d13.body (defScope d13.st) (defScope d13.st) true (defBody d13.st) = true := by kernel_rfl
theorem p13 : FdP T d13 := ⟨⟨by kernel_rfl, by kernel_rfl, by kernel_rfl, by decide +kernel, by kernel_rfl, by decide +kernel, by decide +kernel⟩, c13, rfl, .inl ⟨rfl, rfl, fun _ _ _ _ _ _ us hl => match us, hl with | [_], _ => rfl⟩⟩
theorem c14 : ckSs T d14.N d14.body (defScope d14.st) (defScope d14.st) true (defBody d14.st) = true := by kernel_rfl
theorem p14 : FdP T d14 := ⟨⟨by kernel_rfl, by kernel_rfl, by kernel_rfl, by decide +kernel, by kernel_rfl, by decide +kernel, by decide +kernel⟩, c14, rfl, .inl ⟨rfl, rfl, fun _ _ _ _ _ _ us hl => match us, hl with | [_, _], _ => rfl⟩⟩
theorem c15 : ckSs T d15.N d15.body (defScope d15.st) (defScope d15.st) true (defBody d15.st) = true := by kernel_rfl
theorem p15 : FdP T d15 := ⟨⟨by kernel_rfl, by kernel_rfl, by kernel_rfl, by decide +kernel, by kernel_rfl, by decide +kernel, by decide +kernel⟩, c15, rfl, .inl ⟨rfl, rfl, fun _ _ _ _ _ _ us hl => match us, hl with | [_], _ => rfl⟩⟩
theorem c16 : ckSs T d16.N d16.body (defScope d16.st) (defScope d16.st) true (defBody d16.st) = true := by kernel_rfl
theorem p16 : FdP T d16 := ⟨⟨by kernel_rfl, by kernel_rfl, by kernel_rfl, by decide +kernel, by kernel_rfl, by decide +kernel, by decide +kernel⟩, c16, rfl, .inl ⟨rfl, rfl, fun _ _ _ _ _ _ us hl => match us, hl with | [_, _, _, _], _ => rfl⟩⟩
theorem c17 : ckSs T d17.N d17.body (defScope d17.st) (defScope d17.st) true (defBody d17.st) = true := by kernel_rfl
theorem p17 : FdP T d17 := ⟨⟨by kernel_rfl, by kernel_rfl, by kernel_rfl, by decide +kernel, by kernel_rfl, by decide +kernel, by decide +kernel⟩, c17, rfl, .inl ⟨rfl, rfl, fun _ _ _ _ _ _ us hl => match us, hl with | [_, _, _], _ => rfl⟩⟩
theorem c18 : ckSs T d18.N d18.body (defScope d18.st) (defScope d18.st) true (defBody d18.st) = true := by kernel_rfl
theorem p18 : FdP T d18 := ⟨⟨by kernel_rfl, by kernel_rfl, by kernel_rfl, by decide +kernel, by kernel_rfl, by decide +kernel, by decide +kernel⟩, c18, rfl, .inl ⟨rfl, rfl, fun _ _ _ _ _ _ us hl => match us, hl with | [_, _, _, _], _ => rfl⟩⟩
theorem c19 : ckSs T d19.N d19.body (defScope d19.st) (defScope d19.st) true (defBody d19.st) = true := by kernel_rfl
theorem p19 : FdP T d19 := ⟨⟨by kernel_rfl, by kernel_rfl, by kernel_rfl, by decide +kernel, by kernel_rfl, by decide +kernel, by decide +kernel⟩, c19, rfl, .inr ⟨(fun z => by cases z), ⟨4, rfl, fun _ _ _ _ _ _ us ks hu hk => match us, hu, ks, hk with | [_, _, _, _], _, [_], _ => ⟨_, _, _, _, _, _, rfl, rfl, rfl⟩⟩, (fun _ h => nomatch h)⟩⟩
theorem c20 : ckSs T d20.N d20.body (defScope d20.st) (defScope d20.st) true (defBody d20.st) = true := by kernel_rfl
theorem p20 : FdP T d20 := ⟨⟨by kernel_rfl, by kernel_rfl, by kernel_rfl, by decide +kernel, by kernel_rfl, by decide +kernel, by decide +kernel⟩, c20, rfl, .inl ⟨rfl, rfl, fun _ _ _ _ _ _ us hl => match us, hl with | [_], _ => rfl⟩⟩
theorem c21 : ckSs T d21.N d21.body (defScope d21.st) (defScope d21.st) true (defBody d21.st) = true := by kernel_rfl
theorem p21 : FdP T d21 := ⟨⟨by kernel_rfl, by kernel_rfl, by kernel_rfl, by decide +kernel, by kernel_rfl, by decide +kernel, by decide +kernel⟩, c21, rfl, .inl ⟨rfl, rfl, fun _ _ _ _ _ _ us hl => match us, hl with | [_, _], _ => rfl⟩⟩
theorem c22 : ckSs T d22.N d22.body (defScope d22.st) (defScope d22.st) true (defBody d22.st) = true := by kernel_rfl
theorem p22 : FdP T d22 := ⟨⟨by kernel_rfl, by kernel_rfl, by kernel_rfl, by decide +kernel, by kernel_rfl, by decide +kernel, by decide +kernel⟩, c22, rfl, .inl ⟨rfl, rfl, fun _ _ _ _ _ _ us hl => match us, hl with | [_], _ => rfl⟩⟩
theorem c23 : ckSs T d23.N d23.body (defScope d23.st) (defScope d23.st) true (defBody d23.st) = true := by kernel_rfl
theorem p23 : FdP T d23 := ⟨⟨by kernel_rfl, by kernel_rfl, by kernel_rfl, by decide +kernel, by kernel_rfl, by decide +kernel, by decide +kernel⟩, c23, rfl, .inl ⟨rfl, rfl, fun _ _ _ _ _ _ us hl => match us, hl with | [_], _ => rfl⟩⟩
theorem c24 : ckSs T d24.N d24.body (defScope d24.st) (defScope d24.st) true (defBody d24.st) = true := by kernel_rfl
theorem p24 : FdP T d24 := ⟨⟨by kernel_rfl, by kernel_rfl, by kernel_rfl, by decide +kernel, by kernel_rfl, by decide +kernel, by decide +kernel⟩, c24, rfl, .inl ⟨rfl, rfl, fun _ _ _ _ _ _ us hl => match us, hl with | [_], _ => rfl⟩⟩
theorem c25 : ckSs T d25.N d25.body (defScope d25.st) (defScope d25.st) true (defBody d25.st) = true := by kernel_rfl
theorem p25 : FdP T d25 := ⟨⟨by kernel_rfl, by kernel_rfl, by kernel_rfl, by decide +kernel, by kernel_rfl, by decide +kernel, by decide +kernel⟩, c25, rfl, .inl ⟨rfl, rfl, fun _ _ _ _ _ _ us hl => match us, hl with | [_, _], _ => rfl⟩⟩
theorem c26 : ckSs T d26.N d26.body (defScope d26.st) (defScope d26.st) true (defBody d26.st) = true := by kernel_rfl
theorem p26 : FdP T d26 := ⟨⟨by kernel_rfl, by kernel_rfl, by kernel_rfl, by decide +kernel, by kernel_rfl, by decide +kernel, by decide +kernel⟩, c26, rfl, .inl ⟨rfl, rfl, fun _ _ _ _ _ _ us hl => match us, hl with | [_, _], _ => rfl⟩⟩
theorem c27 : ckSs T d27.N d27.body (defScope d27.st) (defScope d27.st) true (defBody d27.st) = true := by kernel_rfl
theorem p27 : FdP T d27 := ⟨⟨by kernel_rfl, by kernel_rfl, by kernel_rfl, by decide +kernel, by kernel_rfl, by decide +kernel, by decide +kernel⟩, c27, rfl, .inl ⟨rfl, rfl, fun _ _ _ _ _ _ us hl => match us, hl with | [_, _], _ => rfl⟩⟩
theorem c28 : ckSs T d28.N d28.body (defScope d28.st) (defScope d28.st) true (defBody d28.st) = true := by kernel_rfl
theorem p28 : FdP T d28 := ⟨⟨by kernel_rfl, by kernel_rfl, by kernel_rfl, by decide +kernel, by kernel_rfl, by decide +kernel, by decide +kernel⟩, c28, rfl, .inl ⟨rfl, rfl, fun _ _ _ _ _ _ us hl => match us, hl with | [_], _ => rfl⟩⟩
theorem c29 : ckSs T d29.N d29.body (defScope d29.st) (defScope d29.st) true (defBody d29.st) = true := by kernel_rfl
theorem p29 : FdP T d29 := ⟨⟨by kernel_rfl, by kernel_rfl, by kernel_rfl, by decide +kernel, by kernel_rfl, by decide +kernel, by decide +kernel⟩, c29, rfl, .inl ⟨rfl, rfl, fun _ _ _ _ _ _ us hl => match us, hl with | [_, _], _ => rfl⟩⟩
theorem c30 : ckSs T d30.N d30.body (defScope d30.st) (defScope d30.st) true (defBody d30.st) = true := by kernel_rfl
theorem p30 : FdP T d30 := ⟨⟨by kernel_rfl, by kernel_rfl, by kernel_rfl, by decide +kernel, by kernel_rfl, by decide +kernel, by decide +kernel⟩, c30, rfl, .inl ⟨rfl, rfl, fun _ _ _ _ _ _ us hl => match us, hl with | [_, _], _ => rfl⟩⟩
theorem c31 : ckSs T d31.N d31.body (defScope d31.st) (defScope d31.st) true (defBody d31.st) = true := by kernel_rfl
theorem p31 : FdP T d31 := ⟨⟨by kernel_rfl, by kernel_rfl, by kernel_rfl, by decide +kernel, by kernel_rfl, by decide +kernel, by decide +kernel⟩, c31, rfl, .inl ⟨rfl, rfl, fun _ _ _ _ _ _ us hl => match us, hl with | [_, _, _], _ => rfl⟩⟩
theorem c32 : ckSs T d32.N d32.body (defScope d32.st) (defScope d32.st) true (defBody d32.st) = true := by kernel_rfl
theorem p32 : FdP T d32 := ⟨⟨by kernel_rfl, by kernel_rfl, by kernel_rfl, by decide +kernel, by kernel_rfl, by decide +kernel, by decide +kernel⟩, c32, rfl, .inl ⟨rfl, rfl, fun _ _ _ _ _ _ us hl => match us, hl with | [_, _, _], _ => rfl⟩⟩
theorem c33 : ckSs T d33.N d33.body (defScope d33.st) (defScope d33.st) true (defBody d33.st) = true := by kernel_rfl
theorem p33 : FdP T d33 := ⟨⟨by kernel_rfl, by kernel_rfl, by kernel_rfl, by decide +kernel, by kernel_rfl, by decide +kernel, by decide +kernel⟩, c33, rfl, .inl ⟨rfl, rfl, fun _ _ _ _ _ _ us hl => match us, hl with | [_], _ => rfl⟩⟩
theorem c34 : ckSs T d34.N d34.body (defScope d34.st) (defScope d34.st) true (defBody d34.st) = true := by kernel_rfl
theorem p34 : FdP T d34 := ⟨⟨by kernel_rfl, by kernel_rfl, by kernel_rfl, by decide +kernel, by kernel_rfl, by decide +kernel, by decide +kernel⟩, c34, rfl, .inl ⟨rfl, rfl, fun _ _ _ _ _ _ us hl => match us, hl with | [_], _ => rfl⟩⟩
theorem c35 : ckSs T d35.N d35.body (defScope d35.st) (defScope d35.st) true (defBody d35.st) = true := by kernel_rfl
theorem p35 : FdP T d35 := ⟨⟨by kernel_rfl, by kernel_rfl, by kernel_rfl, by decide +kernel, by kernel_rfl, by decide +kernel, by decide +kernel⟩, c35, rfl, .inr ⟨(fun z => by cases z), ⟨2, rfl, fun _ _ _ _ _ _ us ks hu hk => match us, hu, ks, hk with | [_, _], _, [_], _ => ⟨_, _, _, _, _, _, rfl, rfl, rfl⟩⟩, (by
  intro kc h
  rcases List.mem_cons.mp h with h | h
  · subst h; exact fun _ _ _ _ _ _ us ks hu hk => match us, hu, ks, hk with | [_, _], _, [_], _ => ⟨_, _, _, _, _, _, rfl, rfl, rfl⟩
  cases h)⟩⟩
theorem c36 : ckSs T d36.N d36.body (defScope d36.st) (defScope d36.st) true (defBody d36.st) = true := by kernel_rfl
theorem p36 : FdP T d36 := ⟨⟨by kernel_rfl, by kernel_rfl, by kernel_rfl, by decide +kernel, by kernel_rfl, by decide +kernel, by decide +kernel⟩, c36, rfl, .inl ⟨rfl, rfl, fun _ _ _ _ _ _ us hl => match us, hl with | [_, _, _, _], _ => rfl⟩⟩
theorem c37 : ckSs T d37.N d37.body (defScope d37.st) (defScope d37.st) true (defBody d37.st) = true := by kernel_rfl
theorem p37 : FdP T d37 := ⟨⟨by kernel_rfl, by kernel_rfl, by kernel_rfl, by decide +kernel, by kernel_rfl, by decide +kernel, by decide +kernel⟩, c37, rfl, .inl ⟨rfl, rfl, fun _ _ _ _ _ _ us hl => match us, hl with | [_, _, _], _ => rfl⟩⟩
theorem c38 : ckSs T d38.N d38.body (defScope d38.st) (defScope d38.st) true (defBody d38.st) = true := by kernel_rfl
theorem p38 : FdP T d38 := ⟨⟨by kernel_rfl, by kernel_rfl, by kernel_rfl, by decide +kernel, by kernel_rfl, by decide +kernel, by decide +kernel⟩, c38, rfl, .inl ⟨rfl, rfl, fun _ _ _ _ _ _ us hl => match us, hl with | [_, _, _], _ => rfl⟩⟩
theorem c39 : ckSs T d39.N d39.body (defScope d39.st) (defScope d39.st) true (defBody d39.st) = true := by kernel_rfl
theorem p39 : FdP T d39 := ⟨⟨by kernel_rfl, by kernel_rfl, by kernel_rfl, by decide +kernel, by kernel_rfl, by decide +kernel, by decide +kernel⟩, c39, rfl, .inl ⟨rfl, rfl, fun _ _ _ _ _ _ us hl => match us, hl with | [_], _ => rfl⟩⟩
theorem c40 : ckSs T d40.N d40.body (defScope d40.st) (defScope d40.st) true (defBody d40.st) = true := by kernel_rfl
theorem p40 : FdP T d40 := ⟨⟨by kernel_rfl, by kernel_rfl, by kernel_rfl, by decide +kernel, by kernel_rfl, by decide +kernel, by decide +kernel⟩, c40, rfl, .inl ⟨rfl, rfl, fun _ _ _ _ _ _ us hl => match us, hl with | [_], _ => rfl⟩⟩
theorem c41 : ckSs T d41.N d41.body (defScope d41.st) (defScope d41.st) true (defBody d41.st) = true := by kernel_rfl
theorem p41 : FdP T d41 := ⟨⟨by kernel_rfl, by kernel_rfl, by kernel_rfl, by decide +kernel, by kernel_rfl, by decide +kernel, by decide +kernel⟩, c41, rfl, .inl ⟨rfl, rfl, fun _ _ _ _ _ _ us hl => match us, hl with | [_, _], _ => rfl⟩⟩
theorem c42 : ckSs T d42.N d42.body (defScope d42.st) (defScope d42.st) true (defBody d42.st) = true := by kernel_rfl
theorem p42 : FdP T d42 := ⟨⟨by kernel_rfl, by kernel_rfl, by kernel_rfl, by decide +kernel, by kernel_rfl, by decide +kernel, by decide +kernel⟩, c42, rfl, .inl ⟨rfl, rfl, fun _ _ _ _ _ _ us hl => match us, hl with | [_], _ => rfl⟩⟩
theorem c43 : ckSs T d43.N d43.body (defScope d43.st) (defScope d43.st) true (defBody d43.st) = true := by kernel_rfl
theorem p43 : FdP T d43 := ⟨⟨by kernel_rfl, by kernel_rfl, by kernel_rfl, by decide +kernel, by kernel_rfl, by decide +kernel, by decide +kernel⟩, c43, rfl, .inl ⟨rfl, rfl, fun _ _ _ _ _ _ us hl => match us, hl with | [_, _], _ => rfl⟩⟩
theorem c44 : ckSs T d44.N d44.body (defScope d44.st) (defScope d44.st) true (defBody d44.st) = true := by kernel_rfl
theorem p44 : FdP T d44 := ⟨⟨by kernel_rfl, by kernel_rfl, by kernel_rfl, by decide +kernel, by kernel_rfl, by decide +kernel, by decide +kernel⟩, c44, rfl, .inl ⟨rfl, rfl, fun _ _ _ _ _ _ us hl => match us, hl with | [_, _], _ => rfl⟩⟩
theorem c45 : ckSs T d45.N d45.body (defScope d45.st) (defScope d45.st) true (defBody d45.st) = true := by kernel_rfl
theorem p45 : FdP T d45 := ⟨⟨by kernel_rfl, by kernel_rfl, by kernel_rfl, by decide +kernel, by kernel_rfl, by decide +kernel, by decide +kernel⟩, c45, rfl, .inl ⟨rfl, rfl, fun _ _ _ _ _ _ us hl => match us, hl with | [_, _], _ => rfl⟩⟩
theorem c46 : ckSs T d46.N d46.body (defScope d46.st) (defScope d46.st) true (defBody d46.st) = true := by kernel_rfl
theorem p46 : FdP T d46 := ⟨⟨by kernel_rfl, by kernel_rfl, by kernel_rfl, by decide +kernel, by kernel_rfl, by decide +kernel, by decide +kernel⟩, c46, rfl, .inl ⟨rfl, rfl, fun _ _ _ _ _ _ us hl => match us, hl with | [_, _, _], _ => rfl⟩⟩
theorem c47 : ckSs T d47.N d47.body (defScope d47.st) (defScope d47.st) true (defBody d47.st) = true := by kernel_rfl
theorem p47 : FdP T d47 := ⟨⟨by kernel_rfl, by kernel_rfl, by kernel_rfl, by decide +kernel, by kernel_rfl, by decide +kernel, by decide +kernel⟩, c47, rfl, .inl ⟨rfl, rfl, fun _ _ _ _ _ _ us hl => match us, hl with | [_], _ => rfl⟩⟩
theorem c48 : ckSs T d48.N d48.body (defScope d48.st) (defScope d48.st) true (defBody d48.st) = true := by kernel_rfl
theorem p48 : FdP T d48 := ⟨⟨by kernel_rfl, by kernel_rfl, by kernel_rfl, by decide +kernel, by kernel_rfl, by decide +kernel, by decide +kernel⟩, c48, rfl, .inl ⟨rfl, rfl, fun _ _ _ _ _ _ us hl => match us, hl with | [_, _, _], _ => rfl⟩⟩
theorem c49 : ckSs T d49.N d49.body (defScope d49.st) (defScope d49.st) true (defBody d49.st) = true := by kernel_rfl
theorem p49 : FdP T d49 := ⟨⟨by kernel_rfl, by kernel_rfl, by kernel_rfl, by decide +kernel, by kernel_rfl, by decide +kernel, by decide +kernel⟩, c49, rfl, .inl ⟨rfl, rfl, fun _ _ _ _ _ _ us hl => match us, hl with | [_], _ => rfl⟩⟩
theorem c50 : ckSs T d50.N d50.body (defScope d50.st) (defScope d50.st) true (defBody d50.st) = true := by kernel_rfl
theorem p50 : FdP T d50 := ⟨⟨by kernel_rfl, by kernel_rfl, by kernel_rfl, by decide +kernel, by kernel_rfl, by decide +kernel, by decide +kernel⟩, c50, rfl, .inl ⟨rfl, rfl, fun _ _ _ _ _ _ us hl => match us, hl with | [_, _], _ => rfl⟩⟩
theorem c51 : ckSs T d51.N d51.body (defScope d51.st) (defScope d51.st) true (defBody d51.st) = true := by kernel_rfl
theorem p51 : FdP T d51 := ⟨⟨by kernel_rfl, by kernel_rfl, by kernel_rfl, by decide +kernel, by kernel_rfl, by decide +kernel, by decide +kernel⟩, c51, rfl, .inl ⟨rfl, rfl, fun _ _ _ _ _ _ us hl => match us, hl with | [_, _], _ => rfl⟩⟩
theorem c52 : ckSs T d52.N d52.body (defScope d52.st) (defScope d52.st) true (defBody d52.st) = true := by kernel_rfl
theorem p52 : FdP T d52 := ⟨⟨by kernel_rfl, by kernel_rfl, by kernel_rfl, by decide +kernel, by kernel_rfl, by decide +kernel, by decide +kernel⟩, c52, rfl, .inl ⟨rfl, rfl, fun _ _ _ _ _ _ us hl => match us, hl with | [_, _, _], _ => rfl⟩⟩
theorem c53 : ckSs T d53.N d53.body (defScope d53.st) (defScope d53.st) true (defBody d53.st) = true := by kernel_rfl
theorem p53 : FdP T d53 := ⟨⟨by kernel_rfl, by kernel_rfl, by kernel_rfl, by decide +kernel, by kernel_rfl, by decide +kernel, by decide +kernel⟩, c53, rfl, .inl ⟨rfl, rfl, fun _ _ _ _ _ _ us hl => match us, hl with | [_, _, _, _, _], _ => rfl⟩⟩
theorem c54 : ckSs T d54.N d54.body (defScope d54.st) (defScope d54.st) true (defBody d54.st) = true := by kernel_rfl
theorem p54 : FdP T d54 := ⟨⟨by kernel_rfl, by kernel_rfl, by kernel_rfl, by decide +kernel, by kernel_rfl, by decide +kernel, by decide +kernel⟩, c54, rfl, .inl ⟨rfl, rfl, fun _ _ _ _ _ _ us hl => match us, hl with | [_, _], _ => rfl⟩⟩
theorem c55 : ckSs T d55.N d55.body (defScope d55.st) (defScope d55.st) true (defBody d55.st) = true := by kernel_rfl
theorem p55 : FdP T d55 := ⟨⟨by kernel_rfl, by kernel_rfl, by kernel_rfl, by decide +kernel, by kernel_rfl, by decide +kernel, by decide +kernel⟩, c55, rfl, .inl ⟨rfl, rfl, fun _ _ _ _ _ _ us hl => match us, hl with | [_, _], _ => rfl⟩⟩
theorem c56 : ckSs T d56.N d56.body (defScope d56.st) (defScope d56.st) true (defBody d56.st) = true := by kernel_rfl
theorem p56 : FdP T d56 := ⟨⟨by kernel_rfl, by kernel_rfl, by kernel_rfl, by decide +kernel, by kernel_rfl, by decide +kernel, by decide +kernel⟩, c56, rfl, .inl ⟨rfl, rfl, fun _ _ _ _ _ _ us hl => match us, hl with | [_, _, _], _ => rfl⟩⟩
theorem c57 : ckSs T d57.N d57.body (defScope d57.st) (defScope d57.st) true (defBody d57.st) = true := by kernel_rfl
theorem p57 : FdP T d57 := ⟨⟨by kernel_rfl, by kernel_rfl, by kernel_rfl, by decide +kernel, by kernel_rfl, by decide +kernel, by decide +kernel⟩, c57, rfl, .inl ⟨rfl, rfl, fun _ _ _ _ _ _ us hl => match us, hl with | [_, _], _ => rfl⟩⟩
theorem c58 : ckSs T d58.N d58.body (defScope d58.st) (defScope d58.st) true (defBody d58.st) = true := by kernel_rfl
theorem p58 : FdP T d58 := ⟨⟨by kernel_rfl, by kernel_rfl, by kernel_rfl, by decide +kernel, by kernel_rfl, by decide +kernel, by decide +kernel⟩, c58, rfl, .inl ⟨rfl, rfl, fun _ _ _ _ _ _ us hl => match us, hl with | [_, _], _ => rfl⟩⟩
theorem c59 : ckSs T d59.N d59.body (defScope d59.st) (defScope d59.st) true (defBody d59.st) = true := by kernel_rfl
theorem p59 : FdP T d59 := ⟨⟨by kernel_rfl, by kernel_rfl, by kernel_rfl, by decide +kernel, by kernel_rfl, by decide +kernel, by decide +kernel⟩, c59, rfl, .inl ⟨rfl, rfl, fun _ _ _ _ _ _ us hl => match us, hl with | [_, _, _], _ => rfl⟩⟩
theorem c60 : ckSs T d60.N d60.body (defScope d60.st) (defScope d60.st) true (defBody d60.st) = true := by kernel_rfl
theorem p60 : FdP T d60 := ⟨⟨by kernel_rfl, by kernel_rfl, by kernel_rfl, by decide +kernel, by kernel_rfl, by decide +kernel, by decide +kernel⟩, c60, rfl, .inl ⟨rfl, rfl, fun _ _ _ _ _ _ us hl => match us, hl with | [_, _, _], _ => rfl⟩⟩
theorem c61 : ckSs T d61.N d61.body (defScope d61.st) (defScope d61.st) true (defBody d61.st) = true := by kernel_rfl
theorem p61 : FdP T d61 := ⟨⟨by kernel_rfl, by kernel_rfl, by kernel_rfl, by decide +kernel, by kernel_rfl, by decide +kernel, by decide +kernel⟩, c61, rfl, .inl ⟨rfl, rfl, fun _ _ _ _ _ _ us hl => match us, hl with | [_, _, _], _ => rfl⟩⟩
theorem c62 : ckSs T d62.N d62.body (defScope d62.st) (defScope d62.st) true (defBody d62.st) = true := by kernel_rfl
theorem p62 : FdP T d62 := ⟨⟨by kernel_rfl, by kernel_rfl, by kernel_rfl, by decide +kernel, by kernel_rfl, by decide +kernel, by decide +kernel⟩, c62, rfl, .inl ⟨rfl, rfl, fun _ _ _ _ _ _ us hl => match us, hl with | [_, _], _ => rfl⟩⟩
theorem c63 : ckSs T d63.N d63.body (defScope d63.st) (defScope d63.st) true (defBody d63.st) = true := by kernel_rfl
theorem p63 : FdP T d63 := ⟨⟨by kernel_rfl, by kernel_rfl, by kernel_rfl, by decide +kernel, by kernel_rfl, by decide +kernel, by decide +kernel⟩, c63, rfl, .inl ⟨rfl, rfl, fun _ _ _ _ _ _ us hl => match us, hl with | [_, _, _], _ => rfl⟩⟩
theorem c64 : ckSs T d64.N d64.body (defScope d64.st) (defScope d64.st) true (defBody d64.st) = true := by kernel_rfl
theorem p64 : FdP T d64 := ⟨⟨by kernel_rfl, by kernel_rfl, by kernel_rfl, by decide +kernel, by kernel_rfl, by decide +kernel, by decide +kernel⟩, c64, rfl, .inl ⟨rfl, rfl, fun _ _ _ _ _ _ us hl => match us, hl with | [_, _], _ => rfl⟩⟩
theorem c65 : ckSs T d65.N d65.body (defScope d65.st) (defScope d65.st) true (defBody d65.st) = true := by kernel_rfl
theorem p65 : FdP T d65 := ⟨⟨by kernel_rfl, by kernel_rfl, by kernel_rfl, by decide +kernel, by kernel_rfl, by decide +kernel, by decide +kernel⟩, c65, rfl, .inl ⟨rfl, rfl, fun _ _ _ _ _ _ us hl => match us, hl with | [_, _, _, _], _ => rfl⟩⟩
theorem c66 : ckSs T d66.N d66.body (defScope d66.st) (defScope d66.st) true (defBody d66.st) = true := by kernel_rfl
theorem p66 : FdP T d66 := ⟨⟨by kernel_rfl, by kernel_rfl, by kernel_rfl, by decide +kernel, by kernel_rfl, by decide +kernel, by decide +kernel⟩, c66, rfl, .inl ⟨rfl, rfl, fun _ _ _ _ _ _ us hl => match us, hl with | [_], _ => rfl⟩⟩
theorem px0 : XdP T x0 := ⟨rfl, ⟨by kernel_rfl, by kernel_rfl, by kernel_rfl, by decide +kernel, by kernel_rfl, by decide +kernel, by decide +kernel⟩, by kernel_rfl, fun _ _ _ _ _ _ us hl => match us, hl with | [_, _], _ => rfl⟩
theorem fdsOk : ∀ fd ∈ T.fs, FdP T fd := by
  intro fd h
  rcases List.mem_cons.mp h with h | h
  · exact h ▸ p0
  rcases List.mem_cons.mp h with h | h
  · exact h ▸ p1
  rcases List.mem_cons.mp h with h | h
  · exact h ▸ p2
  rcases List.mem_cons.mp h with h | h
  · exact h ▸ p3
  rcases List.mem_cons.mp h with h | h
  · exact h ▸ p4
  rcases List.mem_cons.mp h with h | h
  · exact h ▸ p5
  rcases List.mem_cons.mp h with h | h
  · exact h ▸ p6
  rcases List.mem_cons.mp h with h | h
  · exact h ▸ p7
  rcases List.mem_cons.mp h with h | h
  · exact h ▸ p8
  rcases List.mem_cons.mp h with h | h
  · exact h ▸ p9
  rcases List.mem_cons.mp h with h | h
  · exact h ▸ p10
  rcases List.mem_cons.mp h with h | h
  · exact h ▸ p11
  rcases List.mem_cons.mp h with h | h
  · exact h ▸ p12
  rcases List.mem_cons.mp h with h | h
  · exact h ▸ p13
  rcases List.mem_cons.mp h with h | h
  · exact h ▸ p14
  rcases List.mem_cons.mp h with h | h
  · exact h ▸ p15
  rcases List.mem_cons.mp h with h | h
  · exact h ▸ p16
  rcases List.mem_cons.mp h with h | h
  · exact h ▸ p17
  rcases List.mem_cons.mp h with h | h
  · exact h ▸ p18
  rcases List.mem_cons.mp h with h | h
  · exact h ▸ p19
  rcases List.mem_cons.mp h with h | h
  · exact h ▸ p20
  rcases List.mem_cons.mp h with h | h
  · exact h ▸ p21
  rcases List.mem_cons.mp h with h | h
  · exact h ▸ p22
  rcases List.mem_cons.mp h with h | h
  · exact h ▸ p23
  rcases List.mem_cons.mp h with h | h
  · exact h ▸ p24
  rcases List.mem_cons.mp h with h | h
  · exact h ▸ p25
  rcases List.mem_cons.mp h with h | h
  · exact h ▸ p26
  rcases List.mem_cons.mp h with h | h
  · exact h ▸ p27
  rcases List.mem_cons.mp h with h | h
  · exact h ▸ p28
  rcases List.mem_cons.mp h with h | h
  · exact h ▸ p29
  rcases List.mem_cons.mp h with h | h
  · exact h ▸ p30
  rcases List.mem_cons.mp h with h | h
  · exact h ▸ p31
  rcases List.mem_cons.mp h with h | h
  · exact h ▸ p32
  rcases List.mem_cons.mp h with h | h
  · exact h ▸ p33
  rcases List.mem_cons.mp h with h | h
  · exact h ▸ p34
  rcases List.mem_cons.mp h with h | h
  · exact h ▸ p35
  rcases List.mem_cons.mp h with h | h
  · exact h ▸ p36
  rcases List.mem_cons.mp h with h | h
  · exact h ▸ p37
  rcases List.mem_cons.mp h with h | h
  · exact h ▸ p38
  rcases List.mem_cons.mp h with h | h
  · exact h ▸ p39
  rcases List.mem_cons.mp h with h | h
  · exact h ▸ p40
  rcases List.mem_cons.mp h with h | h
  · exact h ▸ p41
  rcases List.mem_cons.mp h with h | h
  · exact h ▸ p42
  rcases List.mem_cons.mp h with h | h
  · exact h ▸ p43
  rcases List.mem_cons.mp h with h | h
  · exact h ▸ p44
  rcases List.mem_cons.mp h with h | h
  · exact h ▸ p45
  rcases List.mem_cons.mp h with h | h
  · exact h ▸ p46
  rcases List.mem_cons.mp h with h | h
  · exact h ▸ p47
  rcases List.mem_cons.mp h with h | h
  · exact h ▸ p48
  rcases List.mem_cons.mp h with h | h
  · exact h ▸ p49
  rcases List.mem_cons.mp h with h | h
  · exact h ▸ p50
  rcases List.mem_cons.mp h with h | h
  · exact h ▸ p51
  rcases List.mem_cons.mp h with h | h
  · exact h ▸ p52
  rcases List.mem_cons.mp h with h | h
  · exact h ▸ p53
  rcases List.mem_cons.mp h with h | h
  · exact h ▸ p54
  rcases List.mem_cons.mp h with h | h
  · exact h ▸ p55
  rcases List.mem_cons.mp h with h | h
  · exact h ▸ p56
  rcases List.mem_cons.mp h with h | h
  · exact h ▸ p57
  rcases List.mem_cons.mp h with h | h
  · exact h ▸ p58
  rcases List.mem_cons.mp h with h | h
  · exact h ▸ p59
  rcases List.mem_cons.mp h with h | h
  · exact h ▸ p60
  rcases List.mem_cons.mp h with h | h
  · exact h ▸ p61
  rcases List.mem_cons.mp h with h | h
  · exact h ▸ p62
  rcases List.mem_cons.mp h with h | h
  · exact h ▸ p63
  rcases List.mem_cons.mp h with h | h
  · exact h ▸ p64
  rcases List.mem_cons.mp h with h | h
  · exact h ▸ p65
  rcases List.mem_cons.mp h with h | h
  · exact h ▸ p66
  cases h
theorem xdsOk : ∀ x ∈ xs, XdP T x := by
  intro x h
  rcases List.mem_cons.mp h with h | h
  · exact h ▸ px0
  cases h
end Fk
end
local macro_rules | `(tactic| array_get_dec) => `(tactic| first|refine Fk.w_cons ?_|refine Fk.w_nil ?_|refine Fk.w_asg ?_|refine Fk.w_par ?_|refine Fk.w_ex ?_|refine Fk.w_pass ?_|refine Fk.w_ite ?_|refine Fk.w_ret ?_|refine Fk.w_retN ?_|refine Fk.w_brk ?_|refine Fk.w_cont ?_|refine Fk.r_var rfl ?_|refine Fk.r_varx rfl (by assumption) ?_|refine Fk.r_con ?_|refine Fk.r_glo rfl ?_|refine Fk.r_bin ?_|refine Fk.r_neg ?_|refine Fk.r_negQ ?_|refine Fk.r_cmp ?_|refine Fk.r_chain ?_|refine Fk.r_bop ?_|refine Fk.r_bop1 ?_|refine Fk.r_and ?_|refine Fk.r_or ?_|refine Fk.r_not ?_|refine Fk.r_notQ ?_|refine Fk.r_ite ?_|refine Fk.r_tQ ?_|refine Fk.r_tup ?_|refine Fk.r_lst ?_|refine Fk.r_len rfl ?_|refine Fk.r_dct ?_|refine Fk.r_lenE rfl ?_|refine Fk.r_sub ?_|refine Fk.r_blt ?_|refine Fk.r_isi ?_|refine Fk.r_isiQ rfl ?_|refine Fk.r_call ?_|refine Fk.r_meth ?_|refine Fk.r_new ?_|refine Fk.r_leno ?_|refine Fk.r_bm ?_|refine Fk.r_attr ?_|refine Fk.r_frz ?_|refine Fk.r_gdin rfl ?_|refine Fk.r_gdinQ ?_|refine Fk.r_gdget rfl ?_|refine Fk.r_slc ?_|refine Fk.r_slcT ?_|refine Fk.r_slcL ?_|refine Fk.r_ono ?_|refine Fk.r_osome ?_|refine Fk.r_intQO ?_|refine Fk.r_comp ?_|refine Fk.r_es0 ?_|refine Fk.r_es ?_|refine Fk.r_ts0 ?_|refine Fk.r_ts1 ?_|refine Fk.b_add ?_|refine Fk.b_sub ?_|refine Fk.b_mul (by first | (left; omega) | (right; omega)) ?_|refine Fk.b_div (by refine ⟨?_, ?_⟩ <;> omega) ?_|refine Fk.b_mod (by omega) ?_|refine Fk.b_pow (by refine ⟨?_, ?_, ?_⟩ <;> decide) ?_|refine Fk.n_f ?_|refine Fk.u_seq (Fk.sq_ref Fk.mset_same) rfl ?_|refine Fk.r_stQ Fk.mset_same rfl ?_|refine Fk.f_len (Fk.sq_ref Fk.mset_same) ?_|refine Fk.n_kf ?_|refine Fk.c_int ?_|refine Fk.c_str ?_|refine Fk.c_non ?_|refine Fk.c_bl ?_|refine Fk.c_tup ?_|refine Fk.c_list ?_|refine Fk.s_lt ?_|refine Fk.s_le ?_|refine Fk.s_gt ?_|refine Fk.s_ge ?_|refine Fk.s_eq ?_|refine Fk.s_ne ?_|refine Fk.s_eqs ?_|refine Fk.s_nes ?_|refine Fk.s_is ?_|refine Fk.s_isn ?_|refine Fk.s_isb ?_|refine Fk.s_isnb ?_|refine Fk.u_seq Fk.sq_list rfl ?_|refine Fk.u_seq Fk.sq_tup rfl ?_|refine Fk.u_seq Fk.sq_tup Fk.at0 ?_|refine Fk.u_seq Fk.sq_tup Fk.at1 ?_|refine Fk.u_seq Fk.sq_tup Fk.at2 ?_|refine Fk.u_seq Fk.sq_list Fk.at0 ?_|refine Fk.u_seq Fk.sq_list Fk.at1 ?_|refine Fk.u_seq Fk.sq_list Fk.at2 ?_|refine Fk.t_starL ?_|refine Fk.w_tryT ?_|refine Fk.u_seq Fk.sq_ro rfl ?_|refine Fk.u_seq (Fk.sq_ref (by assumption)) rfl ?_|refine Fk.f_min ?_|refine Fk.f_max ?_|refine Fk.f_abs ?_|refine Fk.f_divmod (by refine ⟨?_, ?_⟩ <;> omega) ?_|refine Fk.f_int ?_|refine Fk.f_intb ?_|refine Fk.f_len Fk.sq_list ?_|refine Fk.f_len Fk.sq_tup ?_|refine Fk.f_len Fk.sq_ro ?_|refine Fk.f_len (Fk.sq_ref (by assumption)) ?_|refine Fk.t_nm ?_|refine Fk.t_tup rfl ?_|refine Fk.t_star ?_|refine Fk.t_tgs0 ?_|refine Fk.t_tgs ?_|refine Fk.t_sub ?_|refine Fk.t_att ?_|refine Fk.r_stQ (by assumption) rfl ?_|refine Fk.i_seq ?_|refine Fk.i_list ?_|refine Fk.i_ro ?_|refine Fk.i_tup ?_|refine Fk.i_enum ?_|refine Fk.e_list ?_|refine Fk.w_for ?_|refine Fk.f_tuple rfl ?_|refine Fk.r_xisi rfl rfl ?_|refine Fk.r_xattr rfl rfl rfl ?_|refine Fk.w_try ?_|refine Fk.r_excQ rfl ?_|refine Fk.w_raise0 rfl ?_|refine Fk.w_raise1 rfl ?_|refine Fk.i_zip ?_|refine Fk.i_range1 ?_|refine Fk.r_intQ ?_|refine Fk.q_t ?_|refine Fk.q_f ?_)
local macro_rules | `(tactic| array_mem_dec) => `(tactic| first|refine Fk.w_nil ?_|refine Fk.w_asg ?_|refine Fk.w_par ?_|refine Fk.w_ex ?_|refine Fk.w_pass ?_|refine Fk.w_ite ?_|refine Fk.w_ret ?_|refine Fk.w_retN ?_|refine Fk.w_brk ?_|refine Fk.w_cont ?_|refine Fk.r_var rfl ?_|refine Fk.r_varx rfl (by assumption) ?_|refine Fk.r_con ?_|refine Fk.r_glo rfl ?_|refine Fk.r_bin ?_|refine Fk.r_neg ?_|refine Fk.r_negQ ?_|refine Fk.r_cmp ?_|refine Fk.r_chain ?_|refine Fk.r_bop ?_|refine Fk.r_bop1 ?_|refine Fk.r_and ?_|refine Fk.r_or ?_|refine Fk.r_not ?_|refine Fk.r_notQ ?_|refine Fk.r_ite ?_|refine Fk.r_tQ ?_|refine Fk.r_tup ?_|refine Fk.r_lst ?_|refine Fk.r_len rfl ?_|refine Fk.r_dct ?_|refine Fk.r_lenE rfl ?_|refine Fk.r_sub ?_|refine Fk.r_blt ?_|refine Fk.r_isi ?_|refine Fk.r_isiQ rfl ?_|refine Fk.r_call ?_|refine Fk.r_meth ?_|refine Fk.r_new ?_|refine Fk.r_leno ?_|refine Fk.r_bm ?_|refine Fk.r_attr ?_|refine Fk.r_frz ?_|refine Fk.r_gdin rfl ?_|refine Fk.r_gdinQ ?_|refine Fk.r_gdget rfl ?_|refine Fk.r_slc ?_|refine Fk.r_slcT ?_|refine Fk.r_slcL ?_|refine Fk.r_ono ?_|refine Fk.r_osome ?_|refine Fk.r_intQO ?_|refine Fk.r_comp ?_|refine Fk.r_es0 ?_|refine Fk.r_es ?_|refine Fk.r_ts0 ?_|refine Fk.r_ts1 ?_|refine Fk.b_add ?_|refine Fk.b_sub ?_|refine Fk.b_mul (by first | (left; omega) | (right; omega)) ?_|refine Fk.b_div (by refine ⟨?_, ?_⟩ <;> omega) ?_|refine Fk.b_mod (by omega) ?_|refine Fk.b_pow (by refine ⟨?_, ?_, ?_⟩ <;> decide) ?_|refine Fk.n_f ?_|refine Fk.u_seq (Fk.sq_ref Fk.mset_same) rfl ?_|refine Fk.r_stQ Fk.mset_same rfl ?_|refine Fk.f_len (Fk.sq_ref Fk.mset_same) ?_|refine Fk.n_kf ?_|refine Fk.c_int ?_|refine Fk.c_str ?_|refine Fk.c_non ?_|refine Fk.c_bl ?_|refine Fk.c_tup ?_|refine Fk.c_list ?_|refine Fk.s_lt ?_|refine Fk.s_le ?_|refine Fk.s_gt ?_|refine Fk.s_ge ?_|refine Fk.s_eq ?_|refine Fk.s_ne ?_|refine Fk.s_eqs ?_|refine Fk.s_nes ?_|refine Fk.s_is ?_|refine Fk.s_isn ?_|refine Fk.s_isb ?_|refine Fk.s_isnb ?_|refine Fk.u_seq Fk.sq_list rfl ?_|refine Fk.u_seq Fk.sq_tup rfl ?_|refine Fk.u_seq Fk.sq_tup Fk.at0 ?_|refine Fk.u_seq Fk.sq_tup Fk.at1 ?_|refine Fk.u_seq Fk.sq_tup Fk.at2 ?_|refine Fk.u_seq Fk.sq_list Fk.at0 ?_|refine Fk.u_seq Fk.sq_list Fk.at1 ?_|refine Fk.u_seq Fk.sq_list Fk.at2 ?_|refine Fk.t_starL ?_|refine Fk.w_tryT ?_|refine Fk.u_seq Fk.sq_ro rfl ?_|refine Fk.u_seq (Fk.sq_ref (by assumption)) rfl ?_|refine Fk.f_min ?_|refine Fk.f_max ?_|refine Fk.f_abs ?_|refine Fk.f_divmod (by refine ⟨?_, ?_⟩ <;> omega) ?_|refine Fk.f_int ?_|refine Fk.f_intb ?_|refine Fk.f_len Fk.sq_list ?_|refine Fk.f_len Fk.sq_tup ?_|refine Fk.f_len Fk.sq_ro ?_|refine Fk.f_len (Fk.sq_ref (by assumption)) ?_|refine Fk.t_nm ?_|refine Fk.t_tup rfl ?_|refine Fk.t_star ?_|refine Fk.t_tgs0 ?_|refine Fk.t_tgs ?_|refine Fk.t_sub ?_|refine Fk.t_att ?_|refine Fk.r_stQ (by assumption) rfl ?_|refine Fk.i_seq ?_|refine Fk.i_list ?_|refine Fk.i_ro ?_|refine Fk.i_tup ?_|refine Fk.i_enum ?_|refine Fk.e_list ?_|refine Fk.w_for ?_|refine Fk.f_tuple rfl ?_|refine Fk.r_xisi rfl rfl ?_|refine Fk.r_xattr rfl rfl rfl ?_|refine Fk.w_try ?_|refine Fk.r_excQ rfl ?_|refine Fk.w_raise0 rfl ?_|refine Fk.w_raise1 rfl ?_|refine Fk.i_zip ?_|refine Fk.i_range1 ?_|refine Fk.r_intQ ?_|refine Fk.q_t ?_|refine Fk.q_f ?_)
section
set_option maxHeartbeats 4000000
namespace Fk
open PySem PySem.Spec PyProof.Rows L2
/-- a pot: a list of two ints -/
def Pot (μ : Mem) (a : Addr) : Prop := ∃ p q, μ a = some (.lst [.int p, .int q])
/-- nothing else is otherwise -/
def Fr (a : Addr) (μ μ' : Mem) : Prop := ∀ c, c ≠ a → μ' c = μ c
theorem Fr.refl (a : Addr) (μ : Mem) : Fr a μ μ := fun _ _ => rfl
theorem Fr.set {a : Addr} {μ0 μ : Mem} {o : MO} (f : Fr a μ0 μ) : Fr a μ0 (mset μ a o) := fun c h => (mset_ne h).trans (f c h)
/-- draw: a pot of two ints stays one; what is drawn is below the most -/
theorem spTake {n : Nat} {a : Addr} {m : Int} {μ0 μ : Mem} {Φ : AQ} {Ψ : AX} (h : Pot μ a) (f : Fr a μ0 μ) (hm : 0 < m) (hm2 : m ≤ 1000000000000000000000000000000000000000000000000000000000000)
    (K : ∀ r μ', 0 ≤ r → r < m → Pot μ' a → Fr a μ0 μ' → Φ (.int r) μ') : xN T (n + 1) 44 [.ref a, .int m] μ Φ Ψ := by
  obtain ⟨p, q, h⟩ := h
  refine k_call (fd := d44) rfl rfl ?_
  show xSs T (xN T n) b44 _ [some (.ref a), some (.int m), none] μ
  unfold b44
  repeat array_get_dec
  refine q_d (fun hp => ?_) (fun hp => ?_)
  · repeat array_get_dec
    exact K _ _ (Int.emod_nonneg _ (by omega)) (Int.emod_lt_of_pos _ hm) ⟨_, _, mset_same⟩ f.set
  · repeat array_get_dec
    exact K _ _ (Int.emod_nonneg _ (by omega)) (Int.emod_lt_of_pos _ hm) ⟨_, _, mset_same⟩ f.set
/-- a right row of a program of so many rows -/
inductive Row (s m : Int) : D → Prop
  | put (c k : Int) (h : 0 ≤ c ∧ c < s) (h2 : -1000000000000000000000000000000000000000000000000000000000000 ≤ k ∧ k ≤ 1000000000000000000000000000000000000000000000000000000000000) : Row s m (.tup [.str "put", .int c, .int k])
  | two (w : Str) (c d : Int) (hw : w = "move" ∨ w = "add" ∨ w = "from" ∨ w = "into") (h : 0 ≤ c ∧ c < s) (h2 : 0 ≤ d ∧ d < s) : Row s m (.tup [.str w, .int c, .int d])
  | fill (b e c : Int) (h : 0 ≤ b ∧ b ≤ e ∧ e ≤ s) (h2 : 0 ≤ c ∧ c < s) : Row s m (.tup [.str "fill", .int b, .int e, .int c])
  | on (w : Str) (c d r : Int) (hw : w = "less" ∨ w = "same") (h : 0 ≤ c ∧ c < s) (h2 : 0 ≤ d ∧ d < s) (h3 : 0 ≤ r ∧ r ≤ m) : Row s m (.tup [.str w, .int c, .int d, .int r])
  | tell (c : Int) (h : 0 ≤ c ∧ c < s) : Row s m (.tup [.str "tell", .int c])
  | fork (r : Int) (h : 0 ≤ r ∧ r ≤ m) : Row s m (.tup [.str "fork", .int r])
  | fail : Row s m (.tup [.str "fail"])
  | done : Row s m (.tup [.str "done"])
theorem Row.head {s m : Int} {d : D} (h : Row s m d) : ∃ w t, d = .tup (.str w :: t) := by cases h <;> exact ⟨_, _, rfl⟩
theorem spPot {n : Nat} {is : List D} {k : Int} {μ : Mem} {Φ : AQ} {Ψ : AX} (hi : ∀ x ∈ is, ∃ i, x = .int i) (hk : 0 ≤ k) (K : ∀ a p q, μ a = none → Φ (.ref a) (mset μ a (.lst [.int p, .int q]))) : xN T (n + 1) 43 [.ro is, .int k] μ Φ Ψ := by
  refine k_call (fd := d43) rfl rfl ?_
  show xSs T (xN T n) b43 _ [some (.ro is), some (.int k), none] μ
  unfold b43
  refine w_seq (fun ρ μ' => μ' = μ ∧ ∃ i, ρ = [some (.ro is), some (.int k), some (.int i)]) ?_ (fun N hN => ?_)
  · rintro ρ μ' ⟨rfl, i, rfl⟩
    repeat array_get_dec
    exact n_t (fun p hp => K p _ _ hp)
  · repeat array_get_dec
    refine q_d (fun h => ?_) (fun h => ?_)
    · repeat array_get_dec
      obtain ⟨i, hi⟩ := hi (is[k.toNat]'(by omega)) (List.getElem_mem _)
      refine u_seq sq_ro (d := .int i) ?_ ?_
      · unfold atI ixN
        rw [if_pos hk, if_pos h]
        simp only [Option.bind_some]
        rw [List.getElem?_eq_getElem (by omega), hi]
      · repeat array_get_dec
        exact hN _ _ ⟨rfl, _, rfl⟩
    · repeat array_get_dec
      exact hN _ _ ⟨rfl, _, rfl⟩
end Fk
end
section
set_option maxHeartbeats 4000000
namespace Fk
open PySem PySem.Spec PyProof.Rows L2
/-- is a whole number, no bool -/
def isN : D → Bool
  | .int _ => true
  | _ => false
/-- data alone -/
def flat : D → Bool
  | .ref _ => false
  | .ty _ => false
  | .exn _ _ _ => false
  | _ => true
theorem flat_x {d : D} (h : flat d = true) : isX d = false := by cases d <;> first | rfl | cases h
/-- a whole number in a range -/
def inR (lo hi : Int) : D → Bool
  | .int i => decide (lo ≤ i) && decide (i ≤ hi)
  | _ => false
theorem evIsNumber {d : D} {μ : Mem} {n : Nat} (h : flat d = true) : evN T (n + 1) 1 [d] μ = some (.bl (isN d)) := by
  cases d <;> first
    | rfl
    | cases h
theorem spIsNumber {n : Nat} {d : D} {μ : Mem} {Φ : AQ} {Ψ : AX} (h : flat d = true) (K : Φ (.bl (isN d)) μ) : xN T (n + 1) 1 [d] μ Φ Ψ := xN_ok _ _ _ _ _ _ _ (evIsNumber h) K
theorem inR_int {a b i : Int} : inR a b (.int i) = (decide (a ≤ i) && decide (i ≤ b)) := rfl
theorem spIsWhole {n : Nat} {d : D} {a b : Int} {μ : Mem} {Φ : AQ} {Ψ : AX} (h : flat d = true) (K : Φ (.bl (inR a b d)) μ) : xN T (n + 2) 2 [d, .int a, .int b] μ Φ Ψ := by
  refine k_call (fd := d2) rfl rfl ?_
  show xSs T (xN T (n + 1)) b2 _ [some d, some (.int a), some (.int b)] μ
  unfold b2
  have hx := flat_x h
  repeat array_get_dec
  refine spIsNumber h ?_
  repeat array_get_dec
  cases d <;> first
    | (cases h; done)
    | skip
  all_goals (
    unfold isN
    repeat array_get_dec
    try exact K)
  rename_i i
  rw [inR_int] at K
  cases h1 : decide (a ≤ i) <;> rw [h1] at K
  · exact K
  · repeat array_get_dec
    exact K
theorem spIsSize {n : Nat} {d : D} {μ : Mem} {Φ : AQ} {Ψ : AX} (h : flat d = true) (K : Φ (.bl (inR 1 1000000000000000000 d)) μ) : xN T (n + 3) 3 [d] μ Φ Ψ := by
  refine k_call (fd := d3) rfl rfl ?_
  show xSs T (xN T (n + 2)) b3 _ [some d] μ
  unfold b3
  have hx := flat_x h
  repeat array_get_dec
  exact spIsWhole h K
/-- the sorts; the range of each -/
def sorts : List Str := ["c", "n", "r", "b", "e"]
def fitB (a b : Int) (s : Str) (d : D) : Bool := match d with
  | .int i => if s = Str.ofString "n" then true else decide (0 ≤ i) && decide (i < (if s = Str.ofString "c" then a else if s = Str.ofString "r" then b + 1 else a + 1))
  | _ => false
theorem fitB_int {a b i : Int} {s : Str} : fitB a b s (.int i) = if s = Str.ofString "n" then true else decide (0 ≤ i) && decide (i < (if s = Str.ofString "c" then a else if s = Str.ofString "r" then b + 1 else a + 1)) := rfl
theorem spFits {n : Nat} {s : Str} {d : D} {a b : Int} {μ : Mem} {Φ : AQ} {Ψ : AX} (hs : s ∈ sorts) (h : flat d = true) (K : Φ (.bl (fitB a b s d)) μ) : xN T (n + 2) 36 [.str s, d, .int a, .int b] μ Φ Ψ := by
  refine k_call (fd := d36) rfl rfl ?_
  show xSs T (xN T (n + 1)) b36 _ [some (.str s), some d, some (.int a), some (.int b)] μ
  unfold b36
  have hx := flat_x h
  repeat array_get_dec
  refine spIsNumber h ?_
  repeat array_get_dec
  cases d <;> first
    | (cases h; done)
    | skip
  all_goals (
    unfold isN Bool.not
    repeat array_get_dec
    try exact K)
  rename_i i
  refine q_d (fun hn => ?_) (fun hn => ?_)
  · repeat array_get_dec
    rw [fitB_int, if_pos hn] at K
    exact K
  · rw [fitB_int, if_neg hn] at K
    repeat array_get_dec
    cases h1 : decide (0 ≤ i) <;> rw [h1] at K
    · exact K
    · repeat array_get_dec
      simp only [sorts, List.mem_cons, List.not_mem_nil, or_false] at hs
      rcases hs with h | h | h | h | h <;> subst h <;> first
        | exact absurd rfl hn
        | (refine u_dicS rfl rfl ?_
           repeat array_get_dec
           exact K)
end Fk
end
section
set_option maxHeartbeats 4000000
namespace Fk
open PySem PySem.Spec PyProof.Rows L2
def Vw (d : D) : Prop := flat d = true ∧ ∀ ds, d = .tup ds → Val d
theorem Val.flat {d : D} (h : Val d) : flat d = true := by
  obtain ⟨p, h, _⟩ := h
  cases d <;> first
    | rfl
    | cases h
theorem pyL_flat : ∀ {ds : List D} {xs : List PyData}, D.pyL ds = some xs → ∀ d ∈ ds, flat d = true
  | [], _, _, d, hd => by cases hd
  | e :: ds, xs, h, d, hd => by
    have h2 : (match D.py e, D.pyL ds with
          | some x, some xs => some (x :: xs)
          | _, _ => none) = some xs := h
    split at h2
    · rename_i x ys e1 e2
      rcases List.mem_cons.mp hd with rfl | hd
      · cases d <;> first
          | rfl
          | cases e1
      · exact pyL_flat e2 d hd
    · cases h2
theorem Val.pyL {ds : List D} (h : Val (.tup ds)) : ∃ xs, D.pyL ds = some xs := by
  obtain ⟨p, h, _⟩ := h
  have h2 : (D.pyL ds).map PyData.tuple = some p := h
  cases e : D.pyL ds with
  | none => rw [e] at h2; cases h2
  | some xs => exact ⟨xs, rfl⟩
theorem Val.flats {ds : List D} (h : Val (.tup ds)) : ∀ d ∈ ds, Fk.flat d = true := by
  obtain ⟨xs, h⟩ := h.pyL
  exact pyL_flat h
theorem s_tup0 {ds : List D} {μ : Mem} {Φ : AQ} (hv : Val (.tup ds)) (q : Φ (.bl ds.isEmpty) μ) : xcmpS .Eq (.tup ds) (.tup []) μ Φ := by
  obtain ⟨xs, h⟩ := hv.pyL
  obtain ⟨p, hp, hs⟩ := hv
  have hp2 : (D.pyL ds).map PyData.tuple = some p := hp
  rw [h] at hp2
  cases hp2
  refine xcmpS_ok (d := .bl ds.isEmpty) ?_ q
  show (evEq μ (.tup ds) (.tup [])).map D.bl = _
  have e1 : (deref μ (.tup ds)).py = some (.tuple xs) := by
    show (D.pyL ds).map PyData.tuple = _
    rw [h]
    rfl
  have e2 : (deref μ (.tup [])).py = some (.tuple []) := rfl
  have e3 : SeqAt.shaped (.tuple []) = true := by decide +kernel
  have e4 : PyData.eqv (.tuple xs) (.tuple []) = ds.isEmpty := by
    cases ds with
    | nil =>
      cases (show some [] = some xs from h)
      simp [PyData.eqv, PyData.eqvAll]
    | cons d r =>
      cases xs with
      | nil =>
        exfalso
        have h2 : (match D.py d, D.pyL r with
          | some x, some xs => some (x :: xs)
          | _, _ => none) = some ([] : List PyData) := h
        split at h2 <;> cases h2
      | cons x xs => simp [PyData.eqv, PyData.eqvAll]
  unfold evEq
  rw [e1, e2]
  simp only [hs, e3, Bool.and_self, if_true, e4, Option.map_some]
def le01 : List D → Bool
  | .int i :: .int j :: _ => decide (i ≤ j)
  | _ => false
/-- the sorts behind each word -/
def wsorts : List (Str × List Str) := [("put", ["c", "n"]), ("move", ["c", "c"]), ("add", ["c", "c"]), ("fill", ["b", "e", "c"]), ("from", ["c", "c"]), ("into", ["c", "c"]), ("less", ["c", "c", "r"]), ("same", ["c", "c", "r"]), ("tell", ["c"]), ("fork", ["r"]), ("fail", []), ("done", [])]
def shapes : List (Str × D) := [("put", .str "cn"), ("move", .str "cc"), ("add", .str "cc"), ("fill", .str "bec"), ("from", .str "cc"), ("into", .str "cc"), ("less", .str "ccr"), ("same", .str "ccr"), ("tell", .str "c"), ("fork", .str "r"), ("fail", .str ""), ("done", .str "")]
def words : List Str := ["put", "move", "add", "fill", "from", "into", "less", "same", "tell", "fork", "fail", "done"]
theorem lookup_no {β : Type} {w : Str} : ∀ {kvs : List (Str × β)}, w ∉ kvs.map (·.1) → kvs.lookup w = none
  | [], _ => rfl
  | (k, v) :: r, h => by
    rw [List.map_cons, List.mem_cons, not_or] at h
    unfold List.lookup
    have e : (w == k) = false := by simpa using h.1
    rw [e]
    exact lookup_no h.2
theorem shape_of (w : Str) : (w ∉ words ∧ wsorts.lookup w = none ∧ shapes.lookup w = none) ∨ (w ∈ words ∧ ∃ ss t, wsorts.lookup w = some ss ∧ shapes.lookup w = some (.str t) ∧ zSrc (.str t) = some (ss.map .str) ∧ t.length = ss.length ∧ ss.length ≤ 3 ∧ ∀ c ∈ ss, c ∈ sorts) := by
  by_cases hw : w ∈ words
  · refine .inr ⟨hw, ?_⟩
    simp only [words, List.mem_cons, List.not_mem_nil, or_false] at hw
    rcases hw with h | h | h | h | h | h | h | h | h | h | h | h <;> subst h <;> exact ⟨_, _, rfl, rfl, rfl, rfl, by decide, by decide⟩
  · exact .inl ⟨hw, lookup_no hw, lookup_no hw⟩
/-- is a row of a program of so many rows -/
def pRow (s m : Int) : D → Bool
  | .tup (.str w :: r) => (match wsorts.lookup w with
    | some ss => decide (r.length = ss.length) && ((ss.zip r).all fun p => fitB s m p.1 p.2) && (!decide (w = Str.ofString "fill") || le01 r)
    | none => false)
  | _ => false
theorem allBl_map {α : Type} {g : α → Bool} : ∀ l : List α, allBl (l.map fun p => D.bl (g p)) = some (l.map g)
  | [] => rfl
  | x :: l => by
    show (allBl (l.map fun p => D.bl (g p))).map (g x :: ·) = _
    rw [allBl_map l]
    rfl
theorem zip_strs : ∀ (ss : List Str) (r : List D), ((ss.map D.str).zip r).map (fun p => D.tup [p.1, p.2]) = (ss.zip r).map fun p => D.tup [.str p.1, p.2]
  | [], _ => rfl
  | _ :: _, [] => rfl
  | s :: ss, x :: r => by simp [zip_strs ss r]
def fitD (s m : Int) : D → D
  | .tup [.str c, y] => .bl (fitB s m c y)
  | d => d
theorem fill_le {s m : Int} {r : List D} (hl : r.length = 3) (h : ((["b", "e", "c"] : List Str).zip r).all (fun p => fitB s m p.1 p.2) = true) : ∃ i j k, r = [.int i, .int j, .int k] := by
  match r, hl with
  | [x, y, z], _ =>
    simp only [List.zip_cons_cons, List.zip_nil_right, List.all_cons, List.all_nil, Bool.and_true, Bool.and_eq_true] at h
    obtain ⟨h1, h2, h3⟩ := h
    cases x <;> first
      | (cases h1; done)
      | skip
    cases y <;> first
      | (cases h2; done)
      | skip
    cases z <;> first
      | (cases h3; done)
      | skip
    exact ⟨_, _, _, rfl⟩
theorem spProgRow {n : Nat} {d : D} {s m : Int} {μ : Mem} {Φ : AQ} {Ψ : AX} (hv : Vw d) (hl : ∀ ds, d = .tup ds → ds.length ≤ 1000) (K : Φ (.bl (pRow s m d)) μ) : xN T (n + 3) 37 [d, .int s, .int m] μ Φ Ψ := by
  refine k_call (fd := d37) rfl rfl ?_
  show xSs T (xN T (n + 2)) b37 _ [some d, some (.int s), some (.int m), none, none, none, none] μ
  unfold b37
  have hx := flat_x hv.1
  have hfl := hv.1
  cases d
  case ref => cases hfl
  case ty => cases hfl
  case exn => cases hfl
  case tup ds =>
    replace hv := hv.2 ds rfl
    have hf := hv.flats
    have hlen := hl ds rfl
    clear hl
    repeat array_get_dec
    refine s_tup0 hv ?_
    cases ds with
    | nil =>
      repeat array_get_dec
      exact K
    | cons x r =>
      unfold List.isEmpty
      repeat array_get_dec
      have hxf := hf x (by simp)
      cases x <;> first
        | (cases hxf; done)
        | skip
      case str w =>
        repeat array_get_dec
        rcases shape_of w with ⟨_, h1, h2⟩ | ⟨_, ss, t, h1, h2, h3, h4, h5, h6⟩
        · have K2 : Φ (.bl false) μ := by
            have e : pRow s m (.tup (.str w :: r)) = false := by simp only [pRow, h1]
            rw [e] at K; exact K
          have e2 : (if true = true then !(shapes.lookup w).isSome else (shapes.lookup w).isSome) = true := by rw [h2]; rfl
          show if (if true = true then !(shapes.lookup w).isSome else (shapes.lookup w).isSome) = true then _ else _
          rw [e2]
          repeat array_get_dec
          exact K2
        · have K2 : Φ (.bl (decide (r.length = ss.length) && ((ss.zip r).all fun p => fitB s m p.1 p.2) && (!decide (w = Str.ofString "fill") || le01 r))) μ := by
            have e : pRow s m (.tup (.str w :: r)) = (decide (r.length = ss.length) && ((ss.zip r).all fun p => fitB s m p.1 p.2) && (!decide (w = Str.ofString "fill") || le01 r)) := by simp only [pRow, h1]
            rw [e] at K; exact K
          clear K
          have e2 : (if true = true then !(shapes.lookup w).isSome else (shapes.lookup w).isSome) = false := by rw [h2]; rfl
          show if (if true = true then !(shapes.lookup w).isSome else (shapes.lookup w).isSome) = true then _ else _
          rw [e2]
          repeat array_get_dec
          refine r_gdgetQ (kvs := shapes) h2 ?_
          repeat array_get_dec
          refine f_lenS (by have : sizeLine = 16777216 := rfl; omega) ?_
          repeat array_get_dec
          refine q_nd (fun hne => ?_) (fun heq => ?_)
          · repeat array_get_dec
            have e : decide (r.length = ss.length) = false := decide_eq_false (by omega)
            rw [e] at K2
            exact K2
          · have hrl : r.length = ss.length := by omega
            rw [decide_eq_true hrl, Bool.true_and] at K2
            repeat array_get_dec
            refine r_gdgetQ (kvs := shapes) h2 ?_
            repeat array_get_dec
            refine i_zipQ h3 rfl ?_
            rw [zip_strs]
            refine comp_map (fitD s m) trivial ?_ ?_ ?_
            · intro x hx2 Φ2 N hΦ
              obtain ⟨⟨c, y⟩, hp, rfl⟩ := List.mem_map.mp hx2
              have hy : Fk.flat y = true := hf y (List.mem_cons_of_mem _ (List.of_mem_zip hp).2)
              have hyx := flat_x hy
              have hc : c ∈ sorts := h6 c (List.of_mem_zip hp).1
              repeat array_get_dec
              exact spFits hc hy hΦ
            · simp only [List.length_map, List.length_zip]; omega
            · rw [List.map_map]
              have e : (fitD s m ∘ fun (p : Str × D) => D.tup [.str p.1, p.2]) = fun p => D.bl (fitB s m p.1 p.2) := rfl
              rw [e]
              repeat array_get_dec
              refine f_all rfl (allBl_map _) ?_
              repeat array_get_dec
              rw [List.all_map]
              show if (!((ss.zip r).all fun p => fitB s m p.1 p.2)) = true then _ else _
              cases hall : (ss.zip r).all (fun p => fitB s m p.1 p.2) with
              | false =>
                rw [hall] at K2
                repeat array_get_dec
                exact K2
              | true =>
                rw [hall] at K2
                unfold Bool.not
                repeat array_get_dec
                refine q_nd (fun hw => ?_) (fun hw => ?_)
                · rw [decide_eq_false hw] at K2
                  exact K2
                · subst hw
                  have e9 : wsorts.lookup (Str.ofString "fill") = some (["b", "e", "c"] : List Str) := rfl
                  obtain rfl := Option.some.inj (e9.symm.trans h1)
                  obtain ⟨i, j, k, rfl⟩ := fill_le hrl hall
                  repeat array_get_dec
                  exact K2
      all_goals (
        repeat array_get_dec
        exact K)
  all_goals (
    repeat array_get_dec
    exact K)
end Fk
end
section
set_option maxHeartbeats 4000000
namespace Fk
open PySem PySem.Spec PyProof.Rows L2
/-- what was there stays -/
def Ex (μ μ' : Mem) : Prop := ∀ c, μ c ≠ none → μ' c = μ c
theorem Ex.refl (μ : Mem) : Ex μ μ := fun _ _ => rfl
theorem Ex.trans {μ μ1 μ2 : Mem} (a : Ex μ μ1) (b : Ex μ1 μ2) : Ex μ μ2 := fun c h => (b c (by rw [a c h]; exact h)).trans (a c h)
theorem Ex.new {μ0 μ : Mem} {p : Addr} {o : MO} (a : Ex μ0 μ) (h : μ p = none) : Ex μ0 (mset μ p o) := a.trans fun c hc => mset_ne fun e => hc (e ▸ h)
def bdd : D → Prop
  | .int i => -(10 : Int) ^ 60 ≤ i ∧ i ≤ (10 : Int) ^ 60
  | _ => True
/-- the numbers behind a word are not too far -/
def Bdd : D → Prop
  | .tup (_ :: r) => ∀ x ∈ r, bdd x
  | _ => True
end Fk
end
section
set_option maxHeartbeats 4000000
namespace Fk
open PySem PySem.Spec PyProof.Rows L2
theorem Row.mono {s m s' m' : Int} {d : D} (h : Row s m d) (hs : s ≤ s') (hm : m ≤ m') : Row s' m' d := by
  cases h with
  | put c k h h2 => exact .put c k ⟨h.1, by omega⟩ h2
  | two w c d hw h h2 => exact .two w c d hw ⟨h.1, by omega⟩ ⟨h2.1, by omega⟩
  | fill b e c h h2 => exact .fill b e c ⟨h.1, h.2.1, by omega⟩ ⟨h2.1, by omega⟩
  | on w c d r hw h h2 h3 => exact .on w c d r hw ⟨h.1, by omega⟩ ⟨h2.1, by omega⟩ ⟨h3.1, by omega⟩
  | tell c h => exact .tell c ⟨h.1, by omega⟩
  | fork r h => exact .fork r ⟨h.1, by omega⟩
  | fail => exact .fail
  | done => exact .done
theorem pRow_ok {s m : Int} {d : D} (h : Row s m d) : pRow s m d = true := by
  cases h with
  | put c k h h2 =>
    show (((decide (0 ≤ c) && decide (c < s)) && (true && true)) && true) = true
    simp [h.1, h.2]
  | two w c d hw h h2 =>
    rcases hw with rfl | rfl | rfl | rfl
    all_goals (
      show (((decide (0 ≤ c) && decide (c < s)) && ((decide (0 ≤ d) && decide (d < s)) && true)) && true) = true
      simp [h.1, h.2, h2.1, h2.2])
  | fill b e c h h2 =>
    show (((decide (0 ≤ b) && decide (b < s + 1)) && ((decide (0 ≤ e) && decide (e < s + 1)) && ((decide (0 ≤ c) && decide (c < s)) && true))) && (false || decide (b ≤ e))) = true
    simp [h.1, h.2, h2.1, h2.2]
    omega
  | on w c d r hw h h2 h3 =>
    rcases hw with rfl | rfl
    all_goals (
      show (((decide (0 ≤ c) && decide (c < s)) && ((decide (0 ≤ d) && decide (d < s)) && ((decide (0 ≤ r) && decide (r < m + 1)) && true))) && true) = true
      simp [h.1, h.2, h2.1, h2.2, h3.1]
      omega)
  | tell c h =>
    show (((decide (0 ≤ c) && decide (c < s)) && true) && true) = true
    simp [h.1, h.2]
  | fork r h =>
    show (((decide (0 ≤ r) && decide (r < m + 1)) && true) && true) = true
    simp [h.1]
    omega
  | fail => rfl
  | done => rfl
/-- an entry of a list of rows: what is asked of it -/
structure Ent (d : D) : Prop where
  vw : Vw d
  bd : Bdd d
  ok : okD d
  dp : dep d ≤ 3
  we : wei d ≤ 1000
  ln : ∀ ds, d = .tup ds → ds.length ≤ 1000
  nd : ∀ ds, d = .tup ds → nodic d = true
theorem small {i : Int} (h : -1000000000000000000 ≤ i ∧ i ≤ 1000000000000000001) : -(10 : Int) ^ 60 ≤ i ∧ i ≤ (10 : Int) ^ 60 := by
  have e : (10 : Int) ^ 60 = 1000000000000000000000000000000000000000000000000000000000000 := by decide
  rw [e]; omega
theorem small60 {i : Int} (h : -1000000000000000000000000000000000000000000000000000000000000 ≤ i ∧ i ≤ 1000000000000000000000000000000000000000000000000000000000000) : -(10 : Int) ^ 60 ≤ i ∧ i ≤ (10 : Int) ^ 60 := by
  have e : (10 : Int) ^ 60 = 1000000000000000000000000000000000000000000000000000000000000 := by decide
  rw [e]; omega
theorem Vw.of {d : D} (h : okD d) (hn : nodic d = true) (h2 : dep d ≤ 64) (hf : flat d = true) : Vw d := ⟨hf, fun _ _ => Val.of h hn h2⟩
/-- a tuple of a word and small numbers -/
theorem ent_word {w : Str} {r : List Int} (hw : w ∈ words) (hr : r.length ≤ 3) (h : ∀ i ∈ r, -1000000000000000000000000000000000000000000000000000000000000 ≤ i ∧ i ≤ 1000000000000000000000000000000000000000000000000000000000000) : Ent (.tup (.str w :: r.map .int)) ∧ nodic (.tup (.str w :: r.map .int)) = true ∧ dep (.tup (.str w :: r.map .int)) ≤ 1 := by
  have hok : okD (.tup (.str w :: r.map .int)) := by
    refine ⟨?_, okL_of ?_⟩
    · show PyData.strOk w = true
      simp only [words, List.mem_cons, List.not_mem_nil, or_false] at hw
      rcases hw with h | h | h | h | h | h | h | h | h | h | h | h <;> subst h <;> decide +kernel
    · intro d hd
      obtain ⟨i, hi, rfl⟩ := List.mem_map.mp hd
      exact small60 (h i hi)
  have hnd : nodic (.tup (.str w :: r.map .int)) = true := by
    refine nodicL_of ?_
    intro d hd
    rcases List.mem_cons.mp hd with rfl | hd
    · rfl
    · obtain ⟨i, hi, rfl⟩ := List.mem_map.mp hd
      rfl
  have hdp : dep (.tup (.str w :: r.map .int)) ≤ 1 := by
    refine Nat.succ_le_succ (depL_le ?_)
    intro d hd
    rcases List.mem_cons.mp hd with rfl | hd
    · exact Nat.le_refl _
    · obtain ⟨i, hi, rfl⟩ := List.mem_map.mp hd
      exact Nat.le_refl _
  refine ⟨⟨.of hok hnd (by omega) rfl, ?_, hok, by omega, ?_, ?_, fun _ _ => hnd⟩, hnd, hdp⟩
  · intro x hx
    obtain ⟨i, hi, rfl⟩ := List.mem_map.mp hx
    exact small60 (h i hi)
  · have h1 : w.cps.size ≤ 4 := by
      simp only [words, List.mem_cons, List.not_mem_nil, or_false] at hw
      rcases hw with h | h | h | h | h | h | h | h | h | h | h | h <;> subst h <;> decide
    have h2 := weiL_le (n := 210) (ds := r.map .int) (by
      intro d hd
      obtain ⟨i, hi, rfl⟩ := List.mem_map.mp hd
      exact Nat.le_refl _)
    rw [List.length_map] at h2
    show w.cps.size + 1 + weiL (r.map .int) ≤ 1000
    have : (210 + 1) * r.length ≤ 211 * 3 := Nat.mul_le_mul_left _ hr
    omega
  · rintro ds he
    cases he
    simp
    omega
theorem Row.ent {s m : Int} {d : D} (h : Row s m d) (hs : s ≤ 1000000000000000000) (hm : m ≤ 1000000) : Ent d ∧ nodic d = true ∧ dep d ≤ 1 := by
  cases h with
  | put c k h h2 => exact ent_word (r := [c, k]) (by decide) (by simp) (by intro i hi; simp at hi; omega)
  | two w c d hw h h2 =>
    refine ent_word (r := [c, d]) ?_ (by simp) (by intro i hi; simp at hi; omega)
    rcases hw with rfl | rfl | rfl | rfl <;> decide
  | fill b e c h h2 => exact ent_word (r := [b, e, c]) (by decide) (by simp) (by intro i hi; simp at hi; omega)
  | on w c d r hw h h2 h3 =>
    refine ent_word (r := [c, d, r]) ?_ (by simp) (by intro i hi; simp at hi; omega)
    rcases hw with rfl | rfl <;> decide
  | tell c h => exact ent_word (r := [c]) (by decide) (by simp) (by intro i hi; simp at hi; omega)
  | fork r h => exact ent_word (r := [r]) (by decide) (by simp) (by intro i hi; simp at hi; omega)
  | fail => exact ent_word (r := []) (by decide) (by simp) (by intro i hi; simp at hi)
  | done => exact ent_word (r := []) (by decide) (by simp) (by intro i hi; simp at hi)
end Fk
end
section
set_option maxHeartbeats 4000000
namespace Fk
open PySem PySem.Spec PyProof.Rows L2
/-- what becomes of a size and rows -/
inductive PD where
  | size | row (x : D) | made (s : Int) (ds : List D)
def firstBad (s m : Int) : List D → Nat → Option Nat
  | [], _ => none
  | d :: ds, k => if pRow s m d = true then firstBad s m ds (k + 1) else some k
def dueL (sz : D) (l : Option (List D)) : PD := match sz with
  | .int s => if inR 1 1000000000000000000 (.int s) = true then (match l with
    | none => .row .non
    | some ds => (match firstBad s ds.length ds 0 with
      | some k => .row (.int k)
      | none => .made s ds)) else .size
  | _ => .size
def isLs : D → Bool
  | .list _ => true
  | .ro _ => true
  | _ => false
def LstD (μ : Mem) (d : D) : Option (List D) → Prop
  | some ds => d = .list ds ∨ ∃ r, d = .ref r ∧ μ r = some (.lst ds)
  | none => flat d = true ∧ isLs d = false
theorem LstD.x {μ : Mem} {d : D} {l : Option (List D)} (h : LstD μ d l) : isX d = false := by
  cases l with
  | none => exact flat_x h.1
  | some ds => rcases h with rfl | ⟨r, rfl, _⟩ <;> rfl
def prO (s : Int) (ds : List D) : MO := .ins 11 [(7, .int s), (8, .list ds)]
theorem inR_t {i : Int} (h : inR 1 1000000000000000000 (.int i) = true) : 1 ≤ i ∧ i ≤ 1000000000000000000 := by
  rw [inR_int] at h
  simpa using h
theorem spInit {n : Nat} {p : Addr} {sz rws : D} {l : Option (List D)} {μ : Mem} {Φ : AQ} {Ψ : AX} (hp : μ p = some (.ins 11 [])) (hsz : flat sz = true) (hl : LstD μ rws l) (he : ∀ ds, l = some ds → ∀ d ∈ ds, Ent d)
    (K : match dueL sz l with
      | .size => Ψ 1 [] μ
      | .row x => Ψ 6 [(9, x)] μ
      | .made s ds => Φ .non (mset μ p (prO s ds))) : xN T (n + 4) 38 [.ref p, sz, rws] μ Φ Ψ := by
  refine k_call (fd := d38) rfl rfl ?_
  show xSs T (xN T (n + 3)) b38 _ [some (.ref p), some sz, some rws, none, none] μ
  unfold b38
  have hsx := flat_x hsz
  have hlx := hl.x
  repeat array_get_dec
  refine spIsSize hsz ?_
  repeat array_get_dec
  cases hr : inR 1 1000000000000000000 sz with
  | false =>
    unfold Bool.not
    repeat array_get_dec
    have e : dueL sz l = .size := by
      cases sz <;> first
        | rfl
        | (unfold dueL; dsimp only; rw [hr]; rfl)
    rw [e] at K
    exact K
  | true =>
    cases sz <;> first
      | (cases hr; done)
      | skip
    rename_i s
    have hs := inR_t hr
    unfold Bool.not
    repeat array_get_dec
    cases l with
    | none =>
      obtain ⟨h1, h2⟩ := hl
      have e : dueL (.int s) none = .row .non := by unfold dueL; dsimp only; rw [hr]; rfl
      rw [e] at K
      cases rws <;> first
        | (cases h1; done)
        | (cases h2; done)
        | skip
      all_goals (
        repeat array_get_dec
        repeat array_get_dec
        exact K)
    | some ds =>
      have e : dueL (.int s) (some ds) = (match firstBad s ds.length ds 0 with
        | some k => .row (.int k)
        | none => .made s ds) := by unfold dueL; dsimp only; rw [hr]; rfl
      rw [e] at K
      have he := he ds rfl
      have hloop : ∀ (G : Mem → Prop), G μ → (∀ o, seqOf (mset μ p o) rws = some ds) → seqOf μ rws = some ds → xforL
          (xTg T (xN T (n + 3)) (.tup (.cons (.nm 3) (.cons (.nm 4) .nil))))
          (xSs T (xN T (n + 3)) (match b38 with | .cons _ (.cons _ (.cons (.for_ _ _ b) _)) => b | _ => .nil)) G
          (ds.zipIdx.map fun q => .tup [.int (q.2 : Int), q.1])
          ⟨xSs T (xN T (n + 3)) (match b38 with | .cons _ (.cons _ (.cons _ ss)) => ss | _ => .nil) ⟨fun _ μ' => Φ .non μ', Φ, fun _ _ => False, fun _ _ => False, fun c fs _ μ' => Ψ c fs μ'⟩, Φ, fun _ _ => False, fun _ _ => False, fun c fs _ μ' => Ψ c fs μ'⟩
          [some (.ref p), some (.int s), some rws, none, none] μ := by
        intro G hG hsq2 hsq
        refine for_inv (fun items ρ μ' => μ' = μ ∧ ∃ rest k x3 x4, items = (rest.zipIdx k).map (fun q => D.tup [.int (q.2 : Int), q.1]) ∧ firstBad s ds.length rest k = firstBad s ds.length ds 0 ∧ (∀ d ∈ rest, d ∈ ds) ∧ ρ = [some (.ref p), some (.int s), some rws, x3, x4]) ?_ ?_ _ _ _ ⟨rfl, ds, 0, none, none, rfl, rfl, fun _ h => h, rfl⟩
        · rintro ρ _ ⟨rfl, rest, k, x3, x4, h1, h2, h3, rfl⟩
          refine ⟨hG, ?_⟩
          cases rest with
          | cons d rest => simp at h1
          | nil =>
            rw [← h2] at K
            unfold b38
            dsimp only
            repeat array_get_dec
            refine r_saQ hp rfl rfl rfl ?_
            repeat array_get_dec
            refine f_list (hsq2 _) ?_
            repeat array_get_dec
            refine r_saQ mset_same rfl rfl rfl ?_
            rw [mset_mset]
            repeat array_get_dec
            exact K
        · rintro x xs ρ _ N hN ⟨rfl, rest, k, x3, x4, h1, h2, h3, rfl⟩
          refine ⟨hG, ?_⟩
          cases rest with
          | nil => simp at h1
          | cons d rest =>
            rw [List.zipIdx_cons, List.map_cons] at h1
            obtain ⟨rfl, rfl⟩ := List.cons.inj h1
            have hd := he d (h3 d (by simp))
            have hdx := flat_x hd.vw.1
            unfold b38
            dsimp only
            repeat array_get_dec
            refine f_len hsq ?_
            repeat array_get_dec
            refine spProgRow hd.vw hd.ln ?_
            repeat array_get_dec
            cases hb : pRow s ds.length d with
            | true =>
              unfold Bool.not
              repeat array_get_dec
              refine hN _ _ ⟨rfl, rest, k + 1, _, _, rfl, ?_, fun y hy => h3 y (by simp [hy]), rfl⟩
              rw [← h2]
              conv => rhs; unfold firstBad
              rw [if_pos hb]
            | false =>
              unfold Bool.not
              repeat array_get_dec
              repeat array_get_dec
              rw [← h2] at K
              unfold firstBad at K
              rw [hb] at K
              exact K
      unfold b38 at hloop
      dsimp only at hloop
      rcases hl with rfl | ⟨r, rfl, hr2⟩
      · repeat array_get_dec
        exact hloop (fun _ => True) trivial (fun _ => rfl) rfl
      · have hrp : r ≠ p := fun z => by subst z; rw [hp] at hr2; cases hr2
        have i1 : isiA T μ (.ref r) [.ty "list"] = some true := by
          unfold isiA isiS tyD; dsimp only; rw [hr2]; rfl
        repeat array_get_dec
        refine r_isiQ i1 ?_
        repeat array_get_dec
        refine e_ref hr2 ?_
        exact hloop (fun μ => μ r = some (.lst ds)) hr2 (fun o => sq_ref ((mset_ne hrp).trans hr2)) (sq_ref hr2)
theorem spSizeOf {n : Nat} {p : Addr} {s : Int} {ds : List D} {μ : Mem} {Φ : AQ} {Ψ : AX} (hp : μ p = some (prO s ds)) (K : Φ (.int s) μ) : xN T (n + 1) 39 [.ref p] μ Φ Ψ := by
  refine k_call (fd := d39) rfl rfl ?_
  show xSs T (xN T n) b39 _ [some (.ref p)] μ
  unfold b39
  repeat array_get_dec
  exact r_attrQ hp rfl rfl K
theorem spRowsOf {n : Nat} {p : Addr} {s : Int} {ds : List D} {μ : Mem} {Φ : AQ} {Ψ : AX} (hp : μ p = some (prO s ds)) (K : Φ (.list ds) μ) : xN T (n + 1) 40 [.ref p] μ Φ Ψ := by
  refine k_call (fd := d40) rfl rfl ?_
  show xSs T (xN T n) b40 _ [some (.ref p)] μ
  unfold b40
  repeat array_get_dec
  refine r_attrQ hp rfl rfl ?_
  repeat array_get_dec
  refine f_list sq_list ?_
  exact n_f K
theorem spLenOf {n : Nat} {p : Addr} {s : Int} {ds : List D} {μ : Mem} {Φ : AQ} {Ψ : AX} (hp : μ p = some (prO s ds)) (K : Φ (.int ds.length) μ) : xN T (n + 1) 42 [.ref p] μ Φ Ψ := by
  refine k_call (fd := d42) rfl rfl ?_
  show xSs T (xN T n) b42 _ [some (.ref p)] μ
  unfold b42
  repeat array_get_dec
  refine r_attrQ hp rfl rfl ?_
  repeat array_get_dec
  exact K
/-- == of two -/
theorem spEqOf {n : Nat} {p q : Addr} {s s2 : Int} {ds ds2 : List D} {xs ys : List PyData} {μ : Mem} {Φ : AQ} {Ψ : AX} (hp : μ p = some (prO s ds)) (hq : μ q = some (prO s2 ds2)) (h1 : D.pyL ds = some xs) (h2 : D.pyL ds2 = some ys)
    (v1 : SeqAt.shaped (.tuple [.int s, .list xs]) = true) (v2 : SeqAt.shaped (.tuple [.int s2, .list ys]) = true) (K : Φ (.bl (decide (s = s2) && PyData.eqvAll xs ys)) μ) : xN T (n + 1) 41 [.ref p, .ref q] μ Φ Ψ := by
  refine k_call (fd := d41) rfl rfl ?_
  show xSs T (xN T n) b41 _ [some (.ref p), some (.ref q)] μ
  unfold b41
  have i1 : isiA T μ (.ref q) [.own 11] = some true := by
    unfold isiA isiS tyD; dsimp only; rw [hq]; rfl
  repeat array_get_dec
  refine r_isiQ i1 ?_
  repeat array_get_dec
  refine r_attrQ hp rfl rfl ?_
  repeat array_get_dec
  refine r_attrQ hp rfl rfl ?_
  repeat array_get_dec
  refine r_attrQ hq rfl rfl ?_
  repeat array_get_dec
  refine r_attrQ hq rfl rfl ?_
  repeat array_get_dec
  refine xcmpS_ok (d := .bl (decide (s = s2) && PyData.eqvAll xs ys)) ?_ K
  show (evEq μ (.tup [.int s, .list ds]) (.tup [.int s2, .list ds2])).map D.bl = _
  have e1 : (deref μ (.tup [.int s, .list ds])).py = some (.tuple [.int s, .list xs]) := by
    show (D.pyL [.int s, .list ds]).map PyData.tuple = _
    simp only [D.pyL, D.py, h1, Option.map_some]
  have e2 : (deref μ (.tup [.int s2, .list ds2])).py = some (.tuple [.int s2, .list ys]) := by
    show (D.pyL [.int s2, .list ds2]).map PyData.tuple = _
    simp only [D.pyL, D.py, h2, Option.map_some]
  unfold evEq
  rw [e1, e2]
  dsimp only
  rw [v1, v2]
  simp only [Bool.and_self, if_true, Option.map_some, PyData.eqv, PyData.eqvAll, Bool.and_true]
  rfl
/-- == of a program and another thing -/
theorem spEqNo {n : Nat} {p : Addr} {y : D} {μ : Mem} {Φ : AQ} {Ψ : AX} (hy : isX y = false) (hi : isiA T μ y [.own 11] = some false) (K : Φ (.bl false) μ) : xN T (n + 1) 41 [.ref p, y] μ Φ Ψ := by
  refine k_call (fd := d41) rfl rfl ?_
  show xSs T (xN T n) b41 _ [some (.ref p), some y] μ
  unfold b41
  repeat array_get_dec
  refine r_isiQ hi ?_
  repeat array_get_dec
  exact K
end Fk
end
section
set_option maxHeartbeats 4000000
namespace Fk
open PySem PySem.Spec PyProof.Rows L2
/-- a row of cells: how many, what number -/
abbrev Rw := List (Int × Int)
def pD (p : Int × Int) : D := .tup [.int p.1, .int p.2]
def rD (r : Rw) : List D := r.map pD
/-- what lies between two cells -/
def cutP (b e : Int) : Int → Rw → Rw
  | _, [] => []
  | at_, (m, v) :: r => if max b at_ < min e (at_ + m) then (min e (at_ + m) - max b at_, v) :: cutP b e (at_ + m) r else cutP b e (at_ + m) r
/-- neighbours alike made one; what counts nothing dropped -/
def joinS (acc : Rw) (p : Int × Int) : Rw := if p.1 ≤ 0 then acc else match acc.getLast? with
  | some q => if q.2 = p.2 then acc.dropLast ++ [(q.1 + p.1, p.2)] else acc ++ [p]
  | none => [p]
def joinP (r : Rw) : Rw := r.foldl joinS []
theorem max_if {a b : Int} : (if b > a then b else a) = max a b := by split <;> omega
theorem min_if {a b : Int} : (if b < a then b else a) = min a b := by split <;> omega
theorem cutP_len {b e : Int} : ∀ (r : Rw) (a : Int), (cutP b e a r).length ≤ r.length
  | [], _ => Nat.le_refl _
  | (m, v) :: r, a => by
    unfold cutP
    have := cutP_len (b := b) (e := e) r (a + m)
    split <;> simp <;> omega
theorem cutP_cons {b e a m v : Int} {r : Rw} : cutP b e a ((m, v) :: r) = if max b a < min e (a + m) then (min e (a + m) - max b a, v) :: cutP b e (a + m) r else cutP b e (a + m) r := rfl
theorem spCut {n : Nat} {b e : Int} {r : Rw} {μ : Mem} {Φ : AQ} {Ψ : AX} (hl : r.length ≤ 100000) (K : Φ (.list (rD (cutP b e 0 r))) μ) : xN T (n + 1) 7 [.list (rD r), .int b, .int e] μ Φ Ψ := by
  refine k_call (fd := d7) rfl rfl ?_
  show xSs T (xN T n) b7 _ [some (.list (rD r)), some (.int b), some (.int e), none, none, none, none, none, none] μ
  unfold b7
  repeat array_get_dec
  refine n_t (fun p hp => ?_)
  repeat array_mem_dec
  refine w_cons ?_
  repeat array_mem_dec
  refine w_seq (fun ρ μ' => ∃ a x5 x6 x7 x8, ρ = [some (.list (rD r)), some (.int b), some (.int e), some (.ref p), some (.int a), x5, x6, x7, x8] ∧ μ' = mset μ p (.lst (rD (cutP b e 0 r)))) ?_ (fun N hN => ?_)
  · rintro ρ μ' ⟨a, x5, x6, x7, x8, rfl, rfl⟩
    refine w_cons ?_
    refine w_fzL rfl mset_same ?_
    rw [mdel_mset hp]
    repeat array_get_dec
    exact K
  refine w_for ?_
  repeat array_get_dec
  refine for_inv (fun items ρ μ' => ∃ rest acc a x5 x6 x7 x8, items = rD rest ∧ ρ = [some (.list (rD r)), some (.int b), some (.int e), some (.ref p), some (.int a), x5, x6, x7, x8] ∧ μ' = mset μ p (.lst (rD acc)) ∧ acc ++ cutP b e a rest = cutP b e 0 r ∧ acc.length + rest.length ≤ 100000) ?_ ?_ _ _ _ ?_
  · rintro ρ μ' ⟨rest, acc, a, x5, x6, x7, x8, h1, rfl, rfl, h2, _⟩
    have h3 : rest = [] := List.map_eq_nil_iff.mp h1.symm
    subst h3
    have h4 : acc = cutP b e 0 r := by rw [← h2]; exact (List.append_nil _).symm
    subst h4
    exact ⟨trivial, hN _ _ ⟨a, x5, x6, x7, x8, rfl, rfl⟩⟩
  · rintro x xs ρ μ' K2 hK ⟨rest, acc, a, x5, x6, x7, x8, h1, rfl, rfl, h2, hl2⟩
    cases rest with
    | nil => cases h1
    | cons q rest =>
      obtain ⟨m, v⟩ := q
      obtain ⟨rfl, rfl⟩ := List.cons.inj h1
      refine ⟨trivial, ?_⟩
      unfold pD
      rw [cutP_cons] at h2
      simp only [List.length_cons] at hl2
      repeat array_get_dec
      rw [max_if, min_if]
      refine q_d (fun hm => ?_) (fun hm => ?_)
      · rw [if_pos hm] at h2
        repeat array_get_dec
        refine r_bmA mset_same ?_
        repeat array_get_dec
        refine r_app mset_same ?_ ?_
        · have e1 : sizeLine = 16777216 := rfl
          have e2 : (rD acc).length = acc.length := List.length_map _
          omega
        repeat array_get_dec
        rw [mset_mset]
        refine w_aug_add rfl ?_
        repeat array_get_dec
        refine hK _ _ ⟨rest, acc ++ [(min e (a + m) - max b a, v)], a + m, _, _, _, _, rfl, rfl, ?_, by simpa using h2, by simp; omega⟩
        unfold rD
        rw [List.map_append]
        rfl
      · rw [if_neg hm] at h2
        repeat array_get_dec
        refine w_aug_add rfl ?_
        repeat array_get_dec
        exact hK _ _ ⟨rest, acc, a + m, _, _, _, _, rfl, rfl, rfl, h2, by omega⟩
  · exact ⟨r, [], 0, none, none, none, none, rfl, rfl, rfl, rfl, by simpa using hl⟩
theorem spPart {n : Nat} {b e : Int} {r : Rw} {μ : Mem} {Φ : AQ} {Ψ : AX} (hl : r.length ≤ 100000) (K : Φ (.list (rD (cutP b e 0 r))) μ) : xN T (n + 1) 46 [.list (rD r), .int b, .int e] μ Φ Ψ := by
  refine k_call (fd := d46) rfl rfl ?_
  show xSs T (xN T n) b46 _ [some (.list (rD r)), some (.int b), some (.int e), none, none, none, none, none, none] μ
  unfold b46
  repeat array_get_dec
  refine n_t (fun p hp => ?_)
  repeat array_mem_dec
  refine w_seq (fun ρ μ' => ∃ a x5 x6 x7 x8, ρ = [some (.list (rD r)), some (.int b), some (.int e), some (.ref p), some (.int a), x5, x6, x7, x8] ∧ μ' = mset μ p (.lst (rD (cutP b e 0 r)))) ?_ (fun N hN => ?_)
  · rintro ρ μ' ⟨a, x5, x6, x7, x8, rfl, rfl⟩
    refine w_cons ?_
    refine w_fzL rfl mset_same ?_
    rw [mdel_mset hp]
    repeat array_get_dec
    exact K
  refine w_for ?_
  repeat array_get_dec
  refine for_inv (fun items ρ μ' => ∃ rest acc a x5 x6 x7 x8, items = rD rest ∧ ρ = [some (.list (rD r)), some (.int b), some (.int e), some (.ref p), some (.int a), x5, x6, x7, x8] ∧ μ' = mset μ p (.lst (rD acc)) ∧ acc ++ cutP b e a rest = cutP b e 0 r ∧ acc.length + rest.length ≤ 100000) ?_ ?_ _ _ _ ?_
  · rintro ρ μ' ⟨rest, acc, a, x5, x6, x7, x8, h1, rfl, rfl, h2, _⟩
    have h3 : rest = [] := List.map_eq_nil_iff.mp h1.symm
    subst h3
    have h4 : acc = cutP b e 0 r := by rw [← h2]; exact (List.append_nil _).symm
    subst h4
    exact ⟨trivial, hN _ _ ⟨a, x5, x6, x7, x8, rfl, rfl⟩⟩
  · rintro x xs ρ μ' K2 hK ⟨rest, acc, a, x5, x6, x7, x8, h1, rfl, rfl, h2, hl2⟩
    cases rest with
    | nil => cases h1
    | cons q rest =>
      obtain ⟨m, v⟩ := q
      obtain ⟨rfl, rfl⟩ := List.cons.inj h1
      refine ⟨trivial, ?_⟩
      unfold pD
      rw [cutP_cons] at h2
      simp only [List.length_cons] at hl2
      repeat array_get_dec
      rw [max_if, min_if, Int.max_comm a b, Int.min_comm (a + m) e]
      refine q_d (fun hm => ?_) (fun hm => ?_)
      · rw [if_pos hm] at h2
        repeat array_get_dec
        refine r_bmA mset_same ?_
        repeat array_get_dec
        refine r_app mset_same ?_ ?_
        · have e1 : sizeLine = 16777216 := rfl
          have e2 : (rD acc).length = acc.length := List.length_map _
          omega
        repeat array_get_dec
        rw [mset_mset]
        refine hK _ _ ⟨rest, acc ++ [(min e (a + m) - max b a, v)], a + m, _, _, _, _, rfl, rfl, ?_, by simpa using h2, by simp; omega⟩
        unfold rD
        rw [List.map_append]
        rfl
      · rw [if_neg hm] at h2
        repeat array_get_dec
        repeat array_get_dec
        exact hK _ _ ⟨rest, acc, a + m, _, _, _, _, rfl, rfl, rfl, h2, by omega⟩
  · exact ⟨r, [], 0, none, none, none, none, rfl, rfl, rfl, rfl, by simpa using hl⟩
end Fk
end
section
set_option maxHeartbeats 4000000
namespace Fk
open PySem PySem.Spec PyProof.Rows L2
def pY (p : Int × Int) : PyData := .tuple [.int p.1, .int p.2]
theorem pyL_rD : ∀ r : Rw, D.pyL (rD r) = some (r.map pY)
  | [] => rfl
  | p :: r => by
    show (match D.py (pD p), D.pyL (rD r) with
      | some x, some xs => some (x :: xs)
      | _, _ => none) = _
    rw [pyL_rD r]; rfl
theorem lay_rD : ∀ r : Rw, PyData.canLayAll0 (r.map pY) = true
  | [] => rfl
  | p :: r => by
    show (PyData.canLay0 (pY p) && PyData.canLayAll0 (r.map pY)) = true
    rw [lay_rD r]; rfl
theorem dep_rD : ∀ r : Rw, PyData.depthAll (r.map pY) ≤ 2
  | [] => by decide
  | p :: r => by
    show max (PyData.depth (pY p)) (PyData.depthAll (r.map pY)) ≤ 2
    have h := dep_rD r
    have h2 : PyData.depth (pY p) ≤ 2 := by
      obtain ⟨a, b⟩ := p
      exact (by decide : (1 + max 0 (max 0 0)) ≤ 2)
    omega
theorem sh_rD (r : Rw) : SeqAt.shaped (.list (r.map pY)) = true := by
  unfold SeqAt.shaped
  have h1 : PyData.canLay0 (.list (r.map pY)) = true := by rw [PyData.canLay0]; exact lay_rD r
  have h2 : PyData.depth (.list (r.map pY)) ≤ 64 := by
    have := dep_rD r
    have e : PyData.depth (.list (r.map pY)) = PyData.depthAll (r.map pY) + 1 := by rw [PyData.depth]
    omega
  rw [h1, decide_eq_true h2]; rfl
theorem s_neNil {p : Addr} {r : Rw} {μ : Mem} {Φ : AQ} (h : μ p = some (.lst (rD r))) (q : Φ (.bl (!r.isEmpty)) μ) : xcmpS .NotEq (.ref p) (.list []) μ Φ := by
  refine xcmpS_ok (d := .bl (!r.isEmpty)) ?_ q
  show (evEq μ (.ref p) (.list [])).map (fun b => D.bl (!b)) = _
  have e1 : (deref μ (.ref p)).py = some (.list (r.map pY)) := by
    rw [de_ref h]
    show (D.pyL (rD r)).map PyData.list = _
    rw [pyL_rD]; rfl
  have e2 : (deref μ (.list [])).py = some (.list []) := rfl
  unfold evEq
  rw [e1, e2]
  dsimp only
  rw [sh_rD r]
  have e3 : SeqAt.shaped (.list []) = true := by decide +kernel
  rw [e3]
  cases r <;> rfl
theorem ixN_last {n : Nat} : ixN (n + 1) (-1) = some n := by
  unfold ixN
  rw [if_neg (by omega), if_pos (by omega)]
  congr 1
  omega
theorem atI_last {l : List D} {d : D} : atI (l ++ [d]) (-1) = some d := by
  unfold atI
  have e : (l ++ [d]).length = l.length + 1 := by simp
  rw [e, ixN_last]
  simp
theorem set_last {α : Type} {d x : α} {n : Nat} : ∀ {l : List α}, n = l.length → (l ++ [d]).set n x = l ++ [x] := by
  intro l h
  subst h
  rw [List.set_append_right _ _ (Nat.le_refl _), Nat.sub_self]
  rfl
theorem rD_snoc {l : Rw} {q : Int × Int} : rD (l ++ [q]) = rD l ++ [pD q] := by unfold rD; rw [List.map_append]; rfl
theorem last_snoc {α : Type} (l : List α) : l = [] ∨ ∃ m q, l = m ++ [q] := by
  rcases List.eq_nil_or_concat l with h | ⟨m, q, h⟩
  · exact .inl h
  · exact .inr ⟨m, q, by rw [h]; simp⟩
theorem joinS_no {acc : Rw} {m v : Int} (h : ¬ 0 < m) : joinS acc (m, v) = acc := if_pos (by show m ≤ 0; omega)
theorem joinS_nil {m v : Int} (h : 0 < m) : joinS [] (m, v) = [(m, v)] := by unfold joinS; rw [if_neg (by show ¬ m ≤ 0; omega)]; rfl
theorem joinS_eq {l : Rw} {q : Int × Int} {m v : Int} (h : 0 < m) (e : q.2 = v) : joinS (l ++ [q]) (m, v) = l ++ [(q.1 + m, v)] := by
  unfold joinS; rw [if_neg (by show ¬ m ≤ 0; omega)]
  simp [e]
theorem joinS_ne {l : Rw} {q : Int × Int} {m v : Int} (h : 0 < m) (e : q.2 ≠ v) : joinS (l ++ [q]) (m, v) = l ++ [q] ++ [(m, v)] := by
  unfold joinS; rw [if_neg (by show ¬ m ≤ 0; omega)]
  simp [e]
theorem joinS_len {acc : Rw} {p : Int × Int} : (joinS acc p).length ≤ acc.length + 1 := by
  unfold joinS
  split
  · omega
  · split
    · rename_i q h
      split <;> simp <;> omega
    · simp
theorem spJoin {n : Nat} {r : Rw} {μ : Mem} {Φ : AQ} {Ψ : AX} (hl : r.length ≤ 100000) (K : Φ (.list (rD (joinP r))) μ) : xN T (n + 1) 6 [.list (rD r)] μ Φ Ψ := by
  refine k_call (fd := d6) rfl rfl ?_
  show xSs T (xN T n) b6 _ [some (.list (rD r)), none, none, none] μ
  unfold b6
  repeat array_get_dec
  refine n_t (fun p hp => ?_)
  repeat array_mem_dec
  refine w_seq (fun ρ μ' => ∃ x2 x3, ρ = [some (.list (rD r)), some (.ref p), x2, x3] ∧ μ' = mset μ p (.lst (rD (joinP r)))) ?_ (fun N hN => ?_)
  · rintro ρ μ' ⟨x2, x3, rfl, rfl⟩
    refine w_cons ?_
    refine w_fzL rfl mset_same ?_
    rw [mdel_mset hp]
    repeat array_get_dec
    exact K
  refine w_for ?_
  repeat array_get_dec
  refine for_inv (fun items ρ μ' => ∃ rest acc x2 x3, items = rD rest ∧ ρ = [some (.list (rD r)), some (.ref p), x2, x3] ∧ μ' = mset μ p (.lst (rD acc)) ∧ rest.foldl joinS acc = joinP r ∧ acc.length + rest.length ≤ 100000) ?_ ?_ _ _ _ ?_
  · rintro ρ μ' ⟨rest, acc, x2, x3, h1, rfl, rfl, h2, _⟩
    have h3 : rest = [] := List.map_eq_nil_iff.mp h1.symm
    subst h3
    have h4 : acc = joinP r := h2
    subst h4
    exact ⟨trivial, hN _ _ ⟨x2, x3, rfl, rfl⟩⟩
  · rintro x xs ρ μ' K2 hK ⟨rest, acc, x2, x3, h1, rfl, rfl, h2, hl2⟩
    cases rest with
    | nil => cases h1
    | cons q rest =>
      obtain ⟨m, v⟩ := q
      obtain ⟨rfl, rfl⟩ := List.cons.inj h1
      refine ⟨trivial, ?_⟩
      unfold pD
      rw [List.foldl_cons] at h2
      simp only [List.length_cons] at hl2
      have e1 : sizeLine = 16777216 := rfl
      have e2 : (rD acc).length = acc.length := List.length_map _
      repeat array_get_dec
      refine q_d (fun hm => ?_) (fun hm => ?_)
      · repeat array_get_dec
        refine c_refL mset_same ?_
        refine s_neNil mset_same ?_
        rcases last_snoc acc with rfl | ⟨l, q, rfl⟩
        · rw [joinS_nil hm] at h2
          repeat array_get_dec
          refine q_d (fun _ => ?_) (fun h => absurd hm h)
          repeat array_get_dec
          refine r_bmA mset_same ?_
          repeat array_get_dec
          refine r_app mset_same ?_ ?_
          · omega
          repeat array_get_dec
          rw [mset_mset]
          exact hK _ _ ⟨rest, [(m, v)], _, _, rfl, rfl, rfl, h2, by simp at hl2 ⊢; omega⟩
        · have e3 : (l ++ [q]).isEmpty = false := by simp
          rw [e3]
          repeat array_get_dec
          rw [rD_snoc]
          refine u_seq (sq_ref mset_same) atI_last ?_
          unfold pD
          repeat array_get_dec
          refine q_d (fun hv => ?_) (fun hv => ?_)
          · rw [joinS_eq hm hv] at h2
            repeat array_get_dec
            refine u_seq (sq_ref mset_same) atI_last ?_
            repeat array_get_dec
            refine r_stQ mset_same (by rw [List.length_append]; exact ixN_last) ?_
            rw [mset_mset, set_last rfl]
            repeat array_get_dec
            refine hK _ _ ⟨rest, l ++ [(q.1 + m, v)], _, _, rfl, rfl, ?_, h2, by simp at hl2 ⊢; omega⟩
            rw [rD_snoc]
            rfl
          · rw [joinS_ne hm hv] at h2
            repeat array_get_dec
            refine q_d (fun _ => ?_) (fun h => absurd hm h)
            repeat array_get_dec
            refine r_bmA mset_same ?_
            repeat array_get_dec
            refine r_app mset_same ?_ ?_
            · have e5 : (rD l).length = l.length := List.length_map _
              simp at hl2 ⊢
              omega
            repeat array_get_dec
            rw [mset_mset]
            refine hK _ _ ⟨rest, l ++ [q] ++ [(m, v)], _, _, rfl, rfl, ?_, h2, by simp at hl2 ⊢; omega⟩
            rw [rD_snoc, rD_snoc]
            rfl
      · rw [joinS_no hm] at h2
        repeat array_get_dec
        refine q_d (fun h => absurd h hm) (fun _ => ?_)
        repeat array_get_dec
        exact hK _ _ ⟨rest, acc, _, _, rfl, rfl, rfl, h2, by omega⟩
  · exact ⟨r, [], none, none, rfl, rfl, rfl, rfl, by simpa using hl⟩
theorem spJoinL {n : Nat} {r : Rw} {μ : Mem} {Φ : AQ} {Ψ : AX} (hl : r.length ≤ 100000) (hpos : ∀ q ∈ r, 0 < q.1) (K : Φ (.list (rD (joinP r))) μ) : xN T (n + 1) 47 [.list (rD r)] μ Φ Ψ := by
  refine k_call (fd := d47) rfl rfl ?_
  show xSs T (xN T n) b47 _ [some (.list (rD r)), none, none, none] μ
  unfold b47
  repeat array_get_dec
  refine n_t (fun p hp => ?_)
  repeat array_mem_dec
  refine w_seq (fun ρ μ' => ∃ x2 x3, ρ = [some (.list (rD r)), some (.ref p), x2, x3] ∧ μ' = mset μ p (.lst (rD (joinP r)))) ?_ (fun N hN => ?_)
  · rintro ρ μ' ⟨x2, x3, rfl, rfl⟩
    refine w_cons ?_
    refine w_fzL rfl mset_same ?_
    rw [mdel_mset hp]
    repeat array_get_dec
    exact K
  refine w_for ?_
  repeat array_get_dec
  refine for_inv (fun items ρ μ' => ∃ rest acc x2 x3, items = rD rest ∧ ρ = [some (.list (rD r)), some (.ref p), x2, x3] ∧ μ' = mset μ p (.lst (rD acc)) ∧ rest.foldl joinS acc = joinP r ∧ acc.length + rest.length ≤ 100000 ∧ ∀ q ∈ rest, 0 < q.1) ?_ ?_ _ _ _ ?_
  · rintro ρ μ' ⟨rest, acc, x2, x3, h1, rfl, rfl, h2, _⟩
    have h3 : rest = [] := List.map_eq_nil_iff.mp h1.symm
    subst h3
    have h4 : acc = joinP r := h2
    subst h4
    exact ⟨trivial, hN _ _ ⟨x2, x3, rfl, rfl⟩⟩
  · rintro x xs ρ μ' K2 hK ⟨rest, acc, x2, x3, h1, rfl, rfl, h2, hl2, hps⟩
    cases rest with
    | nil => cases h1
    | cons q rest =>
      obtain ⟨m, v⟩ := q
      obtain ⟨rfl, rfl⟩ := List.cons.inj h1
      have hm : 0 < m := hps (m, v) (by simp)
      have hps2 : ∀ q ∈ rest, 0 < q.1 := fun q hq => hps q (by simp [hq])
      refine ⟨trivial, ?_⟩
      unfold pD
      rw [List.foldl_cons] at h2
      simp only [List.length_cons] at hl2
      have e1 : sizeLine = 16777216 := rfl
      have e2 : (rD acc).length = acc.length := List.length_map _
      repeat array_get_dec
      refine c_refL mset_same ?_
      refine s_neNil mset_same ?_
      rcases last_snoc acc with rfl | ⟨l, q, rfl⟩
      · rw [joinS_nil hm] at h2
        repeat array_get_dec
        refine r_bmA mset_same ?_
        repeat array_get_dec
        refine r_app mset_same ?_ ?_
        · omega
        repeat array_get_dec
        rw [mset_mset]
        exact hK _ _ ⟨rest, [(m, v)], _, _, rfl, rfl, rfl, h2, by simp at hl2 ⊢; omega, hps2⟩
      · have e3 : (l ++ [q]).isEmpty = false := by simp
        have e5 : (rD l).length = l.length := List.length_map _
        rw [e3]
        repeat array_get_dec
        rw [rD_snoc]
        refine u_seq (sq_ref mset_same) atI_last ?_
        unfold pD
        repeat array_get_dec
        refine q_d (fun hv => ?_) (fun hv => ?_)
        · rw [joinS_eq hm hv] at h2
          repeat array_get_dec
          refine r_bmP mset_same ?_
          repeat array_get_dec
          refine r_pop mset_same (by simp; rfl) ?_
          rw [mset_mset]
          repeat array_get_dec
          refine r_bmA mset_same ?_
          repeat array_get_dec
          refine r_app mset_same ?_ ?_
          · simp at hl2 ⊢
            omega
          repeat array_get_dec
          rw [mset_mset]
          refine hK _ _ ⟨rest, l ++ [(q.1 + m, v)], _, _, rfl, rfl, ?_, h2, by simp at hl2 ⊢; omega, hps2⟩
          rw [rD_snoc, List.dropLast_concat]
          show _ = mset μ p (.lst (rD l ++ [D.tup [.int (q.1 + m), .int v]]))
          rw [Int.add_comm q.1 m]
        · rw [joinS_ne hm hv] at h2
          repeat array_get_dec
          refine r_bmA mset_same ?_
          repeat array_get_dec
          refine r_app mset_same ?_ ?_
          · simp at hl2 ⊢
            omega
          repeat array_get_dec
          rw [mset_mset]
          refine hK _ _ ⟨rest, l ++ [q] ++ [(m, v)], _, _, rfl, rfl, ?_, h2, by simp at hl2 ⊢; omega, hps2⟩
          rw [rD_snoc, rD_snoc]
          rfl
  · exact ⟨r, [], none, none, rfl, rfl, rfl, rfl, by simpa using hl, hpos⟩
end Fk
end
section
set_option maxHeartbeats 4000000
namespace Fk
open PySem PySem.Spec PyProof.Rows L2
/-! rows of cells: plain facts -/
def sumP : Rw → Int
  | [] => 0
  | (m, _) :: r => m + sumP r
/-- every count is at least one -/
def Pos (r : Rw) : Prop := ∀ q ∈ r, 0 < q.1
/-- what stands in a cell -/
def atP : Rw → Int → Int
  | [], _ => 0
  | (m, v) :: r, c => if c < m then v else atP r (c - m)
/-- neighbours differ -/
def Nei : Rw → Prop
  | [] => True
  | [_] => True
  | p :: q :: r => p.2 ≠ q.2 ∧ Nei (q :: r)
structure Good (w : Int) (r : Rw) : Prop where
  pos : Pos r
  nei : Nei r
  sum : sumP r = w
theorem Pos.tl {p : Int × Int} {r : Rw} (h : Pos (p :: r)) : 0 < p.1 ∧ Pos r := ⟨h p (by simp), fun q hq => h q (by simp [hq])⟩
theorem Pos.app {r s : Rw} (h : Pos r) (h2 : Pos s) : Pos (r ++ s) := fun q hq => (List.mem_append.mp hq).elim (h q) (h2 q)
theorem sumP_nn : ∀ {r : Rw}, Pos r → 0 ≤ sumP r
  | [], _ => Int.le_refl _
  | (m, v) :: r, h => by
    have := sumP_nn h.tl.2
    have h2 : 0 < m := h.tl.1
    show 0 ≤ m + sumP r
    omega
theorem sumP_app : ∀ (r s : Rw), sumP (r ++ s) = sumP r + sumP s
  | [], s => by show sumP s = 0 + sumP s; omega
  | (m, v) :: r, s => by
    show m + sumP (r ++ s) = m + sumP r + sumP s
    rw [sumP_app r s]; omega
theorem atP_app : ∀ (r s : Rw) (c : Int), Pos r → 0 ≤ c → atP (r ++ s) c = if c < sumP r then atP r c else atP s (c - sumP r)
  | [], s, c, _, hc => by
    show atP s c = if c < 0 then 0 else atP s (c - 0)
    rw [if_neg (by omega), Int.sub_zero]
  | (m, v) :: r, s, c, h, hc => by
    show (if c < m then v else atP (r ++ s) (c - m)) = if c < m + sumP r then (if c < m then v else atP r (c - m)) else atP s (c - (m + sumP r))
    have h1 : 0 < m := h.tl.1
    have h2 := sumP_nn h.tl.2
    by_cases e : c < m
    · rw [if_pos e, if_pos (by omega), if_pos e]
    · rw [if_neg e, if_neg e, atP_app r s (c - m) h.tl.2 (by omega)]
      by_cases e2 : c < m + sumP r
      · rw [if_pos (by omega), if_pos e2]
      · rw [if_neg (by omega), if_neg e2]
        congr 1
        omega
/-! what is cut out -/
theorem cutP_pos {b e : Int} : ∀ {r : Rw} {a : Int}, Pos (cutP b e a r)
  | [], _ => fun q hq => by cases hq
  | (m, v) :: r, a => by
    rw [cutP_cons]
    split
    · intro q hq
      rcases List.mem_cons.mp hq with h | h
      · subst h
        show 0 < min e (a + m) - max b a
        omega
      · exact cutP_pos q h
    · exact cutP_pos
theorem cutP_sum {b e : Int} : ∀ {r : Rw} {a : Int}, Pos r → sumP (cutP b e a r) = max 0 (min e (a + sumP r) - max b a)
  | [], a, _ => by
    show (0 : Int) = max 0 (min e (a + 0) - max b a)
    omega
  | (m, v) :: r, a, h => by
    have h1 : 0 < m := h.tl.1
    have h2 := sumP_nn h.tl.2
    rw [cutP_cons]
    have ih := cutP_sum (b := b) (e := e) (r := r) (a := a + m) h.tl.2
    show _ = max 0 (min e (a + (m + sumP r)) - max b a)
    split
    · show (min e (a + m) - max b a) + sumP (cutP b e (a + m) r) = _
      rw [ih]; omega
    · rw [ih]; omega
theorem cutP_none {b e : Int} : ∀ {r : Rw} {a : Int}, Pos r → e ≤ a → cutP b e a r = []
  | [], _, _, _ => rfl
  | (m, v) :: r, a, h, ha => by
    have h1 : 0 < m := h.tl.1
    rw [cutP_cons, if_neg (by omega)]
    exact cutP_none h.tl.2 (by omega)
/-- the two ends: no more than one piece more -/
theorem cutP_two {b e w : Int} (hb : b ≤ e) : ∀ {r : Rw} {a : Int}, Pos r → (cutP 0 b a r).length + (cutP e w a r).length ≤ r.length + 1
  | [], _, _ => by show (0 : Nat) + 0 ≤ 0 + 1; omega
  | (m, v) :: r, a, h => by
    have h1 : 0 < m := h.tl.1
    by_cases hz : b ≤ a
    · rw [cutP_none h hz]
      have := cutP_len (b := e) (e := w) ((m, v) :: r) a
      simp only [List.length_nil, List.length_cons] at this ⊢
      omega
    · have ih := cutP_two (w := w) hb (r := r) (a := a + m) h.tl.2
      rw [cutP_cons, cutP_cons]
      simp only [List.length_cons]
      by_cases hs : e < a + m
      · rw [cutP_none (b := 0) (e := b) h.tl.2 (by omega : b ≤ a + m)] at ih ⊢
        have h3 := cutP_len (b := e) (e := w) r (a + m)
        split <;> split <;> simp only [List.length_nil, List.length_cons] <;> omega
      · rw [if_neg (c := max e a < min w (a + m)) (by omega)]
        split <;> (try simp only [List.length_cons]) <;> omega
theorem cutP_at {b e : Int} : ∀ {r : Rw} {a c : Int}, Pos r → max b a ≤ c → c < e → c < a + sumP r → atP (cutP b e a r) (c - max b a) = atP r (c - a)
  | [], a, c, _, h1, h2, h3 => by
    exfalso
    have e0 : sumP [] = 0 := rfl
    rw [e0] at h3
    omega
  | (m, v) :: r, a, c, h, h1, h2, h3 => by
    have h4 : 0 < m := h.tl.1
    have h3' : c < a + (m + sumP r) := h3
    rw [cutP_cons]
    show _ = if c - a < m then v else atP r (c - a - m)
    by_cases hc : c - a < m
    · rw [if_pos hc, if_pos (by omega)]
      show (if c - max b a < min e (a + m) - max b a then v else _) = v
      rw [if_pos (by omega)]
    · rw [if_neg hc]
      have ih := cutP_at (b := b) (e := e) (r := r) (a := a + m) (c := c) h.tl.2 (by omega) h2 (by omega)
      split
      · rename_i hp
        show (if c - max b a < min e (a + m) - max b a then v else atP (cutP b e (a + m) r) (c - max b a - (min e (a + m) - max b a))) = _
        rw [if_neg (by omega)]
        have e1 : c - max b a - (min e (a + m) - max b a) = c - max b (a + m) := by omega
        have e2 : c - a - m = c - (a + m) := by omega
        rw [e1, e2]
        exact ih
      · have e1 : c - max b a = c - max b (a + m) := by omega
        have e2 : c - a - m = c - (a + m) := by omega
        rw [e1, e2]
        exact ih
/-! neighbours made one -/
theorem nei_snoc : ∀ {l : Rw} {q p : Int × Int}, Nei (l ++ [q]) → q.2 ≠ p.2 → Nei (l ++ [q] ++ [p])
  | [], q, p, _, h => ⟨h, trivial⟩
  | [x], q, p, h1, h => ⟨h1.1, h, trivial⟩
  | x :: y :: l, q, p, h1, h => ⟨h1.1, nei_snoc (l := y :: l) h1.2 h⟩
theorem nei_last : ∀ {l : Rw} {q p : Int × Int}, Nei (l ++ [q]) → q.2 = p.2 → Nei (l ++ [p])
  | [], q, p, _, h => trivial
  | [x], q, p, h1, h => ⟨h ▸ h1.1, trivial⟩
  | x :: y :: l, q, p, h1, h => ⟨h1.1, nei_last (l := y :: l) h1.2 h⟩
structure JS (acc : Rw) (r : Rw) (out : Rw) : Prop where
  pos : Pos out
  nei : Nei out
  sum : sumP out = sumP acc + sumP r
  at_ : ∀ c, 0 ≤ c → c < sumP acc + sumP r → atP out c = if c < sumP acc then atP acc c else atP r (c - sumP acc)
  len : out.length ≤ acc.length + r.length
theorem sumP_snoc (l : Rw) (q : Int × Int) : sumP (l ++ [q]) = sumP l + q.1 := by
  rw [sumP_app]
  show sumP l + (q.1 + 0) = _
  omega
theorem joinS_ok {acc : Rw} {p : Int × Int} (hp : Pos acc) (hn : Nei acc) (h : 0 < p.1) : JS acc [p] (joinS acc p) := by
  obtain ⟨m, v⟩ := p
  have h' : 0 < m := h
  have es : sumP [(m, v)] = m := by show m + 0 = m; omega
  rcases last_snoc acc with rfl | ⟨l, q, rfl⟩
  · rw [joinS_nil h']
    refine ⟨fun q hq => by rw [List.mem_singleton.mp hq]; exact h, trivial, by rw [es]; show m = 0 + m; omega, fun c h0 h1 => ?_, by simp⟩
    show atP [(m, v)] c = if c < 0 then 0 else atP [(m, v)] (c - 0)
    rw [if_neg (by omega), Int.sub_zero]
  · have hl : Pos l := fun x hx => hp x (by simp [hx])
    have hq : 0 < q.1 := hp q (by simp)
    have hs := sumP_nn hl
    by_cases e : q.2 = v
    · rw [joinS_eq h' e]
      refine ⟨hl.app fun x hx => by rw [List.mem_singleton.mp hx]; show 0 < q.1 + m; omega, nei_last hn e, ?_, fun c h0 h1 => ?_, by simp⟩
      · rw [sumP_snoc, sumP_snoc, es]
        show sumP l + (q.1 + m) = _
        omega
      · rw [sumP_snoc, es] at h1
        rw [sumP_snoc, atP_app _ _ _ hl h0, atP_app _ _ _ hl h0]
        show (if c < sumP l then atP l c else if c - sumP l < q.1 + m then v else atP [] _) = if c < sumP l + q.1 then (if c < sumP l then atP l c else if c - sumP l < q.1 then q.2 else atP [] _) else (if c - (sumP l + q.1) < m then v else atP [] _)
        by_cases e1 : c < sumP l
        · rw [if_pos e1, if_pos (by omega), if_pos e1]
        · rw [if_neg e1, if_pos (by omega), if_neg e1]
          by_cases e2 : c < sumP l + q.1
          · rw [if_pos e2, if_pos (by omega), e]
          · rw [if_neg e2, if_pos (by omega)]
    · rw [joinS_ne h' e]
      refine ⟨hp.app fun x hx => by rw [List.mem_singleton.mp hx]; exact h, nei_snoc hn e, by rw [sumP_app], fun c h0 h1 => atP_app _ _ _ hp h0, by simp⟩
theorem joinF_ok : ∀ {r acc : Rw}, Pos acc → Nei acc → Pos r → JS acc r (r.foldl joinS acc)
  | [], acc, hp, hn, _ => ⟨hp, hn, by show sumP acc = sumP acc + 0; omega, fun c h0 h1 => by
      have h2 : c < sumP acc + 0 := h1
      show atP acc c = _
      rw [if_pos (by omega)], by simp⟩
  | (m, v) :: r, acc, hp, hn, hr => by
    have j := joinS_ok (p := (m, v)) hp hn hr.tl.1
    have k := joinF_ok j.pos j.nei hr.tl.2
    have hm : 0 < m := hr.tl.1
    have es : sumP [(m, v)] = m := by show m + 0 = m; omega
    have s1 := j.sum
    rw [es] at s1
    have sr := sumP_nn hr.tl.2
    rw [List.foldl_cons]
    refine ⟨k.pos, k.nei, ?_, fun c h0 h1 => ?_, ?_⟩
    · rw [k.sum, s1]
      show _ = sumP acc + (m + sumP r)
      omega
    · have h1' : c < sumP acc + (m + sumP r) := h1
      rw [k.at_ c h0 (by omega), s1]
      show _ = if c < sumP acc then atP acc c else (if c - sumP acc < m then v else atP r (c - sumP acc - m))
      by_cases e1 : c < sumP acc
      · rw [if_pos e1, if_pos (by omega), j.at_ c h0 (by rw [es]; omega), if_pos e1]
      · rw [if_neg e1]
        by_cases e2 : c - sumP acc < m
        · rw [if_pos e2, if_pos (by omega), j.at_ c h0 (by rw [es]; omega), if_neg e1]
          show (if c - sumP acc < m then v else _) = v
          rw [if_pos e2]
        · rw [if_neg e2, if_neg (by omega)]
          congr 1
          omega
    · have h1 := k.len
      have h2 := joinS_len (acc := acc) (p := (m, v))
      simp only [List.length_cons]
      omega
theorem joinP_ok {r : Rw} (h : Pos r) : Good (sumP r) (joinP r) ∧ (∀ c, 0 ≤ c → c < sumP r → atP (joinP r) c = atP r c) ∧ (joinP r).length ≤ r.length := by
  have j := joinF_ok (acc := []) (fun q hq => by cases hq) trivial h
  have e0 : sumP [] = 0 := rfl
  refine ⟨⟨j.pos, j.nei, by have := j.sum; rw [e0] at this; show sumP (r.foldl joinS []) = _; omega⟩, fun c h0 h1 => ?_, by have := j.len; simpa [joinP] using this⟩
  have := j.at_ c h0 (by rw [e0]; omega)
  rw [e0, if_neg (by omega), Int.sub_zero] at this
  exact this
/-- a row as it must be is joined already -/
theorem joinF_id : ∀ {r acc : Rw}, Pos (acc ++ r) → Nei (acc ++ r) → r.foldl joinS acc = acc ++ r
  | [], acc, _, _ => by simp
  | (m, v) :: r, acc, hp, hn => by
    have hm : 0 < m := hp (m, v) (by simp)
    have e : joinS acc (m, v) = acc ++ [(m, v)] := by
      rcases last_snoc acc with rfl | ⟨l, q, rfl⟩
      · exact joinS_nil hm
      · refine joinS_ne hm ?_
        have h2 : Nei (l ++ q :: (m, v) :: r) := by simpa using hn
        exact go l h2
    rw [List.foldl_cons, e, joinF_id (by simpa using hp) (by simpa using hn)]
    simp
where go : ∀ (l : Rw) {q p : Int × Int} {r : Rw}, Nei (l ++ q :: p :: r) → q.2 ≠ p.2
  | [], _, _, _, h => h.1
  | [_], _, _, _, h => go [] h.2
  | _ :: y :: l, _, _, _, h => go (y :: l) h.2
theorem joinP_id {r : Rw} (hp : Pos r) (hn : Nei r) : joinP r = r := by
  have := joinF_id (r := r) (acc := []) (by simpa using hp) (by simpa using hn)
  simpa [joinP] using this
/-- part laid from b to e -/
def layP (b : Int) (part : Rw) (e : Int) (r : Rw) : Rw := joinP (cutP 0 b 0 r ++ part ++ cutP e (sumP r) 0 r)
theorem layP_ok {w b e : Int} {part r : Rw} (g : Good w r) (hb : 0 ≤ b) (he : b ≤ e) (hw : e ≤ w) (hp : Pos part) (hs : sumP part = e - b) :
    Good w (layP b part e r) ∧ (∀ c, 0 ≤ c → c < w → atP (layP b part e r) c = if c < b then atP r c else if c < e then atP part (c - b) else atP r c) ∧ (layP b part e r).length ≤ r.length + 1 + part.length := by
  have e1 := cutP_sum (b := 0) (e := b) (a := 0) g.pos
  have e2 := cutP_sum (b := e) (e := sumP r) (a := 0) g.pos
  have gs := g.sum
  rw [gs] at e1 e2
  have p1 : Pos (cutP 0 b 0 r ++ part) := cutP_pos.app hp
  have p2 : Pos (cutP 0 b 0 r ++ part ++ cutP e (sumP r) 0 r) := p1.app cutP_pos
  have s1 : sumP (cutP 0 b 0 r) = b := by rw [e1]; omega
  have s2 : sumP (cutP 0 b 0 r ++ part) = e := by rw [sumP_app, s1, hs]; omega
  have s3 : sumP (cutP 0 b 0 r ++ part ++ cutP e (sumP r) 0 r) = w := by
    rw [sumP_app, s2, gs, e2]; omega
  obtain ⟨j1, j2, j3⟩ := joinP_ok p2
  rw [s3] at j1 j2
  refine ⟨j1, fun c h0 h1 => ?_, ?_⟩
  · show atP (joinP _) c = _
    rw [j2 c h0 h1, atP_app _ _ _ p1 h0, s2]
    by_cases c1 : c < b
    · rw [if_pos (by omega), if_pos c1, atP_app _ _ _ cutP_pos h0, s1, if_pos c1]
      have := cutP_at (b := 0) (e := b) (r := r) (a := 0) (c := c) g.pos (by omega) c1 (by omega)
      simpa using this
    · rw [if_neg c1]
      by_cases c2 : c < e
      · rw [if_pos c2, if_pos c2, atP_app _ _ _ cutP_pos h0, s1, if_neg c1]
      · rw [if_neg c2, if_neg c2]
        have := cutP_at (b := e) (e := sumP r) (r := r) (a := 0) (c := c) g.pos (by omega) (by omega) (by omega)
        rw [show max e 0 = e by omega, Int.sub_zero] at this
        exact this
  · have := cutP_two (b := b) (e := e) (w := sumP r) he (r := r) (a := 0) g.pos
    show (joinP _).length ≤ _
    rw [List.length_append, List.length_append] at j3
    omega
/-- one cell -/
theorem cutP_one : ∀ {r : Rw} {a c : Int}, Pos r → a ≤ c → c < a + sumP r → cutP c (c + 1) a r = [(1, atP r (c - a))]
  | [], a, c, _, h1, h2 => by
    exfalso
    have e0 : sumP [] = 0 := rfl
    rw [e0] at h2
    omega
  | (m, v) :: r, a, c, h, h1, h2 => by
    have h4 : 0 < m := h.tl.1
    have h2' : c < a + (m + sumP r) := h2
    rw [cutP_cons]
    show _ = [(1, if c - a < m then v else atP r (c - a - m))]
    by_cases hc : c - a < m
    · rw [if_pos hc, if_pos (by omega), cutP_none h.tl.2 (by omega)]
      rw [show min (c + 1) (a + m) - max c a = 1 by omega]
    · rw [if_neg hc, if_neg (by omega), cutP_one h.tl.2 (by omega) (by omega)]
      rw [show c - a - m = c - (a + m) by omega]
end Fk
end
section
set_option maxHeartbeats 4000000
namespace Fk
open PySem PySem.Spec PyProof.Rows L2
/-! the class Memory -/
def mO (w : Int) (r : Rw) : MO := .ins 9 [(0, .int w), (1, .list (rD r))]
theorem inR_yes {a b i : Int} (h : a ≤ i ∧ i ≤ b) : inR a b (.int i) = true := by rw [inR_int, decide_eq_true h.1, decide_eq_true h.2]; rfl
theorem spWantSize {n : Nat} {w : Int} {μ : Mem} {Φ : AQ} {Ψ : AX} (h : 1 ≤ w ∧ w ≤ 1000000000000000000) (K : Φ .non μ) : xN T (n + 4) 8 [.int w] μ Φ Ψ := by
  refine k_call (fd := d8) rfl rfl ?_
  show xSs T (xN T (n + 3)) b8 _ [some (.int w)] μ
  unfold b8
  repeat array_get_dec
  refine spIsSize rfl ?_
  rw [inR_yes h]
  repeat array_get_dec
  exact K
theorem spWantNumber {n : Nat} {w : Int} {μ : Mem} {Φ : AQ} {Ψ : AX} (K : Φ .non μ) : xN T (n + 2) 9 [.int w] μ Φ Ψ := by
  refine k_call (fd := d9) rfl rfl ?_
  show xSs T (xN T (n + 1)) b9 _ [some (.int w)] μ
  unfold b9
  repeat array_get_dec
  refine spIsNumber rfl ?_
  repeat array_get_dec
  exact K
theorem spWantCell {n : Nat} {c w : Int} {μ : Mem} {Φ : AQ} {Ψ : AX} (h : 0 ≤ c ∧ c < w) (K : Φ .non μ) : xN T (n + 3) 10 [.int c, .int w] μ Φ Ψ := by
  refine k_call (fd := d10) rfl rfl ?_
  show xSs T (xN T (n + 2)) b10 _ [some (.int c), some (.int w)] μ
  unfold b10
  repeat array_get_dec
  refine spIsWhole rfl ?_
  rw [inR_yes (by omega)]
  repeat array_get_dec
  exact K
theorem spWantStretch {n : Nat} {b e w : Int} {μ : Mem} {Φ : AQ} {Ψ : AX} (h : 0 ≤ b ∧ b ≤ e ∧ e ≤ w) (K : Φ .non μ) : xN T (n + 3) 11 [.int b, .int e, .int w] μ Φ Ψ := by
  refine k_call (fd := d11) rfl rfl ?_
  show xSs T (xN T (n + 2)) b11 _ [some (.int b), some (.int e), some (.int w)] μ
  unfold b11
  repeat array_get_dec
  refine spIsWhole rfl ?_
  rw [inR_yes (by omega)]
  repeat array_get_dec
  refine spIsWhole rfl ?_
  rw [inR_yes (by omega)]
  repeat array_get_dec
  exact K
/-- Memory(w) -/
theorem spMemNew {n : Nat} {w : Int} {μ : Mem} {Φ : AQ} {Ψ : AX} (h : 1 ≤ w ∧ w ≤ 1000000000000000000) (K : ∀ p, μ p = none → Φ (.ref p) (mset μ p (mO w [(w, 0)]))) : newQ T (xN T (n + 5)) 9 [.int w] μ Φ Ψ := by
  refine r_newQ rfl (fun p hp => ?_)
  refine k_call (fd := d12) rfl rfl ?_
  show xSs T (xN T (n + 4)) b12 _ [some (.ref p), some (.int w), some (.int 0)] _
  unfold b12
  repeat array_get_dec
  refine spWantSize h ?_
  repeat array_get_dec
  refine spWantNumber ?_
  repeat array_get_dec
  refine r_saQ mset_same rfl rfl rfl ?_
  rw [mset_mset]
  repeat array_get_dec
  refine r_saQ mset_same rfl rfl rfl ?_
  rw [mset_mset]
  repeat array_get_dec
  exact K p hp
theorem spMemSize {n : Nat} {p : Addr} {w : Int} {r : Rw} {μ : Mem} {Φ : AQ} {Ψ : AX} (hp : μ p = some (mO w r)) (K : Φ (.int w) μ) : xN T (n + 1) 13 [.ref p] μ Φ Ψ := by
  refine k_call (fd := d13) rfl rfl ?_
  show xSs T (xN T n) b13 _ [some (.ref p)] μ
  unfold b13
  repeat array_get_dec
  exact r_attrQ hp rfl rfl K
theorem spMemAt {n : Nat} {p : Addr} {w c : Int} {r : Rw} {μ : Mem} {Φ : AQ} {Ψ : AX} (hp : μ p = some (mO w r)) (g : Good w r) (hl : r.length ≤ 100000) (h : 0 ≤ c ∧ c < w) (K : Φ (.int (atP r c)) μ) : xN T (n + 4) 14 [.ref p, .int c] μ Φ Ψ := by
  refine k_call (fd := d14) rfl rfl ?_
  show xSs T (xN T (n + 3)) b14 _ [some (.ref p), some (.int c)] μ
  unfold b14
  repeat array_get_dec
  refine r_attrQ hp rfl rfl ?_
  repeat array_get_dec
  refine spWantCell h ?_
  repeat array_get_dec
  refine r_attrQ hp rfl rfl ?_
  repeat array_get_dec
  refine spCut hl ?_
  have gs := g.sum
  rw [cutP_one g.pos h.1 (by omega), Int.sub_zero]
  rw [show rD [(1, atP r c)] = [D.tup [.int 1, .int (atP r c)]] from rfl]
  repeat array_get_dec
  exact K
theorem spMemRuns {n : Nat} {p : Addr} {w : Int} {r : Rw} {μ : Mem} {Φ : AQ} {Ψ : AX} (hp : μ p = some (mO w r)) (K : ∀ q, μ q = none → Φ (.ref q) (mset μ q (.lst (rD r)))) : xN T (n + 1) 15 [.ref p] μ Φ Ψ := by
  refine k_call (fd := d15) rfl rfl ?_
  show xSs T (xN T n) b15 _ [some (.ref p)] μ
  unfold b15
  repeat array_get_dec
  refine r_attrQ hp rfl rfl ?_
  repeat array_get_dec
  refine f_list sq_list ?_
  exact n_t K
theorem rD_app (a b : Rw) : rD a ++ rD b = rD (a ++ b) := (List.map_append).symm
theorem spMemLay {n : Nat} {p : Addr} {w b e : Int} {part r : Rw} {μ : Mem} {Φ : AQ} {Ψ : AX} (hp : μ p = some (mO w r)) (g : sumP r = w) (hl : r.length ≤ 10000) (hl2 : part.length ≤ 10000) (K : Φ .non (mset μ p (mO w (layP b part e r)))) : xN T (n + 2) 16 [.ref p, .int b, .list (rD part), .int e] μ Φ Ψ := by
  refine k_call (fd := d16) rfl rfl ?_
  show xSs T (xN T (n + 1)) b16 _ [some (.ref p), some (.int b), some (.list (rD part)), some (.int e), none, none] μ
  unfold b16
  repeat array_get_dec
  refine r_attrQ hp rfl rfl ?_
  repeat array_get_dec
  refine spCut (by omega) ?_
  repeat array_get_dec
  refine r_attrQ hp rfl rfl ?_
  repeat array_get_dec
  refine r_attrQ hp rfl rfl ?_
  repeat array_get_dec
  refine spCut (by omega) ?_
  have h1 := cutP_len (b := 0) (e := b) r 0
  have h2 := cutP_len (b := e) (e := w) r 0
  have e1 : sizeLine = 16777216 := rfl
  repeat array_get_dec
  refine b_lstL ?_ ?_
  · unfold rD; simp only [List.length_map]; omega
  refine n_f ?_
  rw [rD_app]
  repeat array_get_dec
  refine b_lstL ?_ ?_
  · unfold rD; simp only [List.length_map, List.length_append]; omega
  refine n_f ?_
  rw [rD_app]
  repeat array_get_dec
  refine spJoin (by simp only [List.length_append]; omega) ?_
  repeat array_get_dec
  refine r_saQ hp rfl rfl rfl ?_
  repeat array_get_dec
  rw [show layP b part e r = joinP (cutP 0 b 0 r ++ part ++ cutP e w 0 r) by unfold layP; rw [g]] at K
  exact K
theorem spMemPut {n : Nat} {p : Addr} {w c v : Int} {r : Rw} {μ : Mem} {Φ : AQ} {Ψ : AX} (hp : μ p = some (mO w r)) (g : sumP r = w) (hl : r.length ≤ 10000) (h : 0 ≤ c ∧ c < w) (K : Φ .non (mset μ p (mO w (layP c [(1, v)] (c + 1) r)))) : xN T (n + 4) 17 [.ref p, .int c, .int v] μ Φ Ψ := by
  refine k_call (fd := d17) rfl rfl ?_
  show xSs T (xN T (n + 3)) b17 _ [some (.ref p), some (.int c), some (.int v)] μ
  unfold b17
  repeat array_get_dec
  refine r_attrQ hp rfl rfl ?_
  repeat array_get_dec
  refine spWantCell h ?_
  repeat array_get_dec
  refine spWantNumber ?_
  repeat array_get_dec
  refine r_methQ hp rfl ?_
  repeat array_get_dec
  refine spMemLay (part := [(1, v)]) hp g hl (by simp) ?_
  repeat array_get_dec
  exact K
theorem spMemFill {n : Nat} {p : Addr} {w b e v : Int} {r : Rw} {μ : Mem} {Φ : AQ} {Ψ : AX} (hp : μ p = some (mO w r)) (g : sumP r = w) (hl : r.length ≤ 10000) (h : 0 ≤ b ∧ b ≤ e ∧ e ≤ w) (K : Φ .non (mset μ p (mO w (layP b [(e - b, v)] e r)))) : xN T (n + 4) 18 [.ref p, .int b, .int e, .int v] μ Φ Ψ := by
  refine k_call (fd := d18) rfl rfl ?_
  show xSs T (xN T (n + 3)) b18 _ [some (.ref p), some (.int b), some (.int e), some (.int v)] μ
  unfold b18
  repeat array_get_dec
  refine r_attrQ hp rfl rfl ?_
  repeat array_get_dec
  refine spWantStretch h ?_
  repeat array_get_dec
  refine spWantNumber ?_
  repeat array_get_dec
  refine r_methQ hp rfl ?_
  repeat array_get_dec
  refine spMemLay (part := [(e - b, v)]) hp g hl (by simp) ?_
  repeat array_get_dec
  exact K
/-- nothing laid -/
theorem layP_none {b e v : Int} {r : Rw} (h : ¬ 0 < e - b) : layP b [(e - b, v)] e r = layP b [] e r := by
  unfold layP joinP
  simp only [List.foldl_append, List.foldl_cons, List.foldl_nil]
  rw [joinS_no h]
end Fk
end
section
set_option maxHeartbeats 4000000
namespace Fk
open PySem PySem.Spec PyProof.Rows L2
def fstD : D → D
  | .tup [a, _] => a
  | d => d
theorem fst_rD (r : Rw) : (rD r).map fstD = r.map fun p => D.int p.1 := by
  unfold rD
  rw [List.map_map]
  rfl
theorem allInt_map : ∀ r : Rw, allInt (r.map fun p => D.int p.1) = some (r.map (·.1))
  | [] => rfl
  | p :: r => by
    show (allInt (r.map fun p => D.int p.1)).map (p.1 :: ·) = _
    rw [allInt_map r]; rfl
theorem sum_fst : ∀ r : Rw, (r.map (·.1)).sum = sumP r
  | [] => rfl
  | (m, v) :: r => by
    show (m :: r.map (·.1)).sum = m + sumP r
    rw [List.sum_cons, sum_fst r]
theorem mem_rD {r : Rw} {x : D} (h : x ∈ rD r) : ∃ q ∈ r, x = .tup [.int q.1, .int q.2] := by
  obtain ⟨q, hq, rfl⟩ := List.mem_map.mp h
  exact ⟨q, hq, rfl⟩
theorem spIsRun {n : Nat} {m v : Int} {μ : Mem} {Φ : AQ} {Ψ : AX} (h : 0 < m) (K : Φ (.bl true) μ) : xN T (n + 2) 4 [.tup [.int m, .int v]] μ Φ Ψ := by
  refine k_call (fd := d4) rfl rfl ?_
  show xSs T (xN T (n + 1)) b4 _ [some (.tup [.int m, .int v]), none, none] μ
  unfold b4
  repeat array_get_dec
  refine spIsNumber rfl ?_
  repeat array_get_dec
  rw [decide_eq_true h]
  repeat array_get_dec
  refine spIsNumber rfl ?_
  repeat array_get_dec
  exact K
theorem spLawAt {n : Nat} {w c : Int} {r : Rw} {μ : Mem} {Φ : AQ} {Ψ : AX} (g : Good w r) (hl : r.length ≤ 100000) (h : 0 ≤ c ∧ c < w) (K : Φ (.int (atP r c)) μ) : xN T (n + 2) 58 [.list (rD r), .int c] μ Φ Ψ := by
  refine k_call (fd := d58) rfl rfl ?_
  show xSs T (xN T (n + 1)) b58 _ [some (.list (rD r)), some (.int c)] μ
  unfold b58
  repeat array_get_dec
  refine spPart hl ?_
  have gs := g.sum
  rw [cutP_one g.pos h.1 (by omega), Int.sub_zero]
  rw [show rD [(1, atP r c)] = [D.tup [.int 1, .int (atP r c)]] from rfl]
  repeat array_get_dec
  exact K
theorem spLawWith {n : Nat} {w b e : Int} {part r : Rw} {μ : Mem} {Φ : AQ} {Ψ : AX} (g : Good w r) (hl : r.length ≤ 10000) (hl2 : part.length ≤ 10000) (hp : Pos part) (hs : sumP part = e - b) (K : Φ (.list (rD (layP b part e r))) μ) : xN T (n + 2) 48 [.list (rD r), .int b, .list (rD part)] μ Φ Ψ := by
  refine k_call (fd := d48) rfl rfl ?_
  show xSs T (xN T (n + 1)) b48 _ [some (.list (rD r)), some (.int b), some (.list (rD part)), none, none, none, none] μ
  unfold b48
  have hp' : ∀ (s : Rw), ∀ x ∈ rD s, ∃ q ∈ s, x = .tup [.int q.1, .int q.2] := fun s x hx => mem_rD hx
  have e1 : sizeLine = 16777216 := rfl
  have h1 := cutP_len (b := 0) (e := b) r 0
  have h2 := cutP_len (b := e) (e := w) r 0
  have gs := g.sum
  repeat array_get_dec
  refine comp_map fstD trivial ?_ (by unfold rD; rw [List.length_map]; omega) ?_
  · intro x hx Φ2 N hΦ
    obtain ⟨q, _, rfl⟩ := mem_rD hx
    repeat array_get_dec
    exact hΦ
  rw [fst_rD]
  repeat array_get_dec
  refine f_sum rfl (allInt_map part) ?_
  rw [sum_fst, hs]
  repeat array_get_dec
  rw [show b + (e - b) = e by omega]
  refine comp_map fstD trivial ?_ (by unfold rD; rw [List.length_map]; omega) ?_
  · intro x hx Φ2 N hΦ
    obtain ⟨q, _, rfl⟩ := mem_rD hx
    repeat array_get_dec
    exact hΦ
  rw [fst_rD]
  repeat array_get_dec
  refine f_sum rfl (allInt_map r) ?_
  rw [sum_fst, gs]
  repeat array_get_dec
  refine spPart (by omega) ?_
  repeat array_get_dec
  refine b_lstL ?_ ?_
  · unfold rD; simp only [List.length_map]; omega
  refine n_f ?_
  rw [rD_app]
  repeat array_get_dec
  refine spPart (by omega) ?_
  repeat array_get_dec
  refine b_lstL ?_ ?_
  · unfold rD; simp only [List.length_map, List.length_append]; omega
  refine n_f ?_
  rw [rD_app]
  repeat array_get_dec
  refine spJoinL (by simp only [List.length_append]; omega) ((cutP_pos.app hp).app cutP_pos) ?_
  rw [show layP b part e r = joinP (cutP 0 b 0 r ++ part ++ cutP e w 0 r) by unfold layP; rw [gs]] at K
  exact K
end Fk
end
section
set_option maxHeartbeats 4000000
namespace Fk
open PySem PySem.Spec PyProof.Rows L2
theorem allBl_true {α : Type} : ∀ l : List α, allBl (l.map fun _ => D.bl true) = some (l.map fun _ => true)
  | [] => rfl
  | _ :: l => by
    show (allBl (l.map fun _ => D.bl true)).map (true :: ·) = _
    rw [allBl_true l]; rfl
theorem all_true {α : Type} (l : List α) : (l.map fun _ => true).all id = true := by
  rw [List.all_eq_true]
  intro x hx
  obtain ⟨_, _, rfl⟩ := List.mem_map.mp hx
  rfl
theorem nei_any : ∀ {q : Int × Int} {r : Rw}, Nei (q :: r) → (((q :: r).zip r).map fun p => decide (p.1.2 = p.2.2)).any id = false
  | _, [], _ => rfl
  | q, p :: r, h => by
    have ih := nei_any h.2
    simp only [List.zip_cons_cons, List.map_cons, List.any_cons, ih, Bool.or_false, id]
    exact decide_eq_false h.1
theorem zip_rD (a b : Rw) : ((rD a).zip (rD b)).map (fun p => D.tup [p.1, p.2]) = (a.zip b).map fun p => D.tup [pD p.1, pD p.2] := by
  unfold rD
  rw [List.zip_map, List.map_map]
  rfl
def sameD : D → D
  | .tup [.tup [_, .int a], .tup [_, .int b]] => .bl (decide (a = b))
  | d => d
theorem spAreRuns {n : Nat} {w : Int} {r : Rw} {μ : Mem} {Φ : AQ} {Ψ : AX} (g : Good w r) (hw : 0 < w) (hl : r.length ≤ 10000) (K : Φ (.bl true) μ) : xN T (n + 3) 5 [.list (rD r), .int w] μ Φ Ψ := by
  refine k_call (fd := d5) rfl rfl ?_
  show xSs T (xN T (n + 2)) b5 _ [some (.list (rD r)), some (.int w), none, none, none, none] μ
  unfold b5
  repeat array_get_dec
  refine comp_map (fun _ => .bl true) trivial ?_ (by unfold rD; rw [List.length_map]; omega) ?_
  · intro x hx Φ2 N hΦ
    obtain ⟨q, hq, rfl⟩ := mem_rD hx
    repeat array_get_dec
    exact spIsRun (g.pos q hq) hΦ
  repeat array_get_dec
  refine f_all rfl (allBl_true _) ?_
  rw [all_true]
  repeat array_get_dec
  cases r with
  | nil =>
    have e : (0 : Int) = w := g.sum
    omega
  | cons q r =>
    rw [show rD (q :: r) = pD q :: rD r from rfl]
    repeat array_get_dec
    refine i_zipQ rfl rfl ?_
    rw [show pD q :: rD r = rD (q :: r) from rfl, zip_rD]
    refine comp_map sameD trivial ?_ (by simp only [List.length_map, List.length_zip]; simp at hl ⊢; omega) ?_
    · intro x hx Φ2 N hΦ
      obtain ⟨p, hp, rfl⟩ := List.mem_map.mp hx
      unfold pD
      repeat array_get_dec
      exact hΦ
    rw [List.map_map, show (sameD ∘ fun (p : (Int × Int) × (Int × Int)) => D.tup [pD p.1, pD p.2]) = fun p => D.bl (decide (p.1.2 = p.2.2)) from rfl]
    repeat array_get_dec
    refine f_any rfl (allBl_map _) ?_
    rw [nei_any g.nei]
    repeat array_get_dec
    refine comp_map fstD trivial ?_ (by unfold rD; rw [List.length_map]; omega) ?_
    · intro x hx Φ2 N hΦ
      obtain ⟨q, _, rfl⟩ := mem_rD hx
      repeat array_get_dec
      exact hΦ
    rw [fst_rD]
    repeat array_get_dec
    refine f_sum rfl (allInt_map _) ?_
    rw [sum_fst, g.sum]
    repeat array_get_dec
    rw [decide_eq_true rfl]
    exact K
/-- a copy -/
theorem layP_all {w : Int} {r : Rw} (g : Good w r) (hw : 0 < w) : layP 0 r w [(w, 0)] = r := by
  unfold layP
  have e0 : sumP [(w, (0 : Int))] = w := by show w + 0 = w; omega
  have p0 : Pos [(w, (0 : Int))] := fun q hq => by rw [List.mem_singleton.mp hq]; exact hw
  rw [e0, cutP_none p0 (Int.le_refl _), List.nil_append]
  have e1 : cutP w w 0 [(w, (0 : Int))] = [] := by
    rw [cutP_cons, if_neg (by omega)]
    rfl
  rw [e1, List.append_nil]
  exact joinP_id g.pos g.nei
theorem spMemoryOf {n : Nat} {w : Int} {r : Rw} {μ : Mem} {Φ : AQ} {Ψ : AX} (g : Good w r) (hw : 1 ≤ w ∧ w ≤ 1000000000000000000) (hl : r.length ≤ 10000) (K : ∀ p, μ p = none → Φ (.ref p) (mset μ p (mO w r))) : xN T (n + 6) 24 [.list (rD r)] μ Φ Ψ := by
  refine k_call (fd := d24) rfl rfl ?_
  show xSs T (xN T (n + 5)) b24 _ [some (.list (rD r)), none, none, none, none, none] μ
  unfold b24
  repeat array_get_dec
  refine comp_map (fun _ => .bl true) trivial ?_ (by unfold rD; rw [List.length_map]; omega) ?_
  · intro x hx Φ2 N hΦ
    obtain ⟨q, hq, rfl⟩ := mem_rD hx
    repeat array_get_dec
    exact spIsRun (g.pos q hq) hΦ
  repeat array_get_dec
  refine f_all rfl (allBl_true _) ?_
  rw [all_true]
  repeat array_get_dec
  refine comp_map fstD trivial ?_ (by unfold rD; rw [List.length_map]; omega) ?_
  · intro x hx Φ2 N hΦ
    obtain ⟨q, _, rfl⟩ := mem_rD hx
    repeat array_get_dec
    exact hΦ
  rw [fst_rD]
  repeat array_get_dec
  refine f_sum rfl (allInt_map _) ?_
  rw [sum_fst, g.sum]
  repeat array_get_dec
  refine spIsSize rfl ?_
  rw [inR_yes hw]
  repeat array_get_dec
  refine spAreRuns g (by omega) hl ?_
  repeat array_get_dec
  refine spMemNew hw (fun p hp => ?_)
  repeat array_get_dec
  refine r_methQ mset_same rfl ?_
  repeat array_get_dec
  refine f_list sq_list ?_
  refine n_f ?_
  repeat array_get_dec
  refine spMemLay (w := w) (part := r) mset_same (by show w + 0 = w; omega) (by simp) hl ?_
  rw [mset_mset, layP_all g (by omega)]
  repeat array_get_dec
  exact K p hp
theorem spMemCopied {n : Nat} {p : Addr} {w : Int} {r : Rw} {μ : Mem} {Φ : AQ} {Ψ : AX} (hp : μ p = some (mO w r)) (g : Good w r) (hw : 1 ≤ w ∧ w ≤ 1000000000000000000) (hl : r.length ≤ 10000) (K : ∀ p, μ p = none → Φ (.ref p) (mset μ p (mO w r))) : xN T (n + 7) 20 [.ref p] μ Φ Ψ := by
  refine k_call (fd := d20) rfl rfl ?_
  show xSs T (xN T (n + 6)) b20 _ [some (.ref p)] μ
  unfold b20
  repeat array_get_dec
  refine r_attrQ hp rfl rfl ?_
  repeat array_get_dec
  exact spMemoryOf g hw hl K
end Fk
end
section
set_option maxHeartbeats 4000000
namespace Fk
open PySem PySem.Spec PyProof.Rows L2
/-! the rows of a program -/
inductive Ins where
  | put (c v : Int) | move (c d : Int) | add (c d : Int) | from_ (c d : Int) | into (c d : Int) | fill (b e c : Int)
  | less (c d r : Int) | same (c d r : Int) | tell (c : Int) | fork (r : Int) | fail | done
def insD : Ins → D
  | .put c v => .tup [.str "put", .int c, .int v]
  | .move c d => .tup [.str "move", .int c, .int d]
  | .add c d => .tup [.str "add", .int c, .int d]
  | .from_ c d => .tup [.str "from", .int c, .int d]
  | .into c d => .tup [.str "into", .int c, .int d]
  | .fill b e c => .tup [.str "fill", .int b, .int e, .int c]
  | .less c d r => .tup [.str "less", .int c, .int d, .int r]
  | .same c d r => .tup [.str "same", .int c, .int d, .int r]
  | .tell c => .tup [.str "tell", .int c]
  | .fork r => .tup [.str "fork", .int r]
  | .fail => .tup [.str "fail"]
  | .done => .tup [.str "done"]
/-- a right row at a place: its onward place lies behind -/
def Ins.ok (s m at_ : Int) : Ins → Prop
  | .put c v => (0 ≤ c ∧ c < s) ∧ (-100000000000000000000 ≤ v ∧ v ≤ 100000000000000000000)
  | .move c d => (0 ≤ c ∧ c < s) ∧ (0 ≤ d ∧ d < s)
  | .add c d => (0 ≤ c ∧ c < s) ∧ (0 ≤ d ∧ d < s)
  | .from_ c d => (0 ≤ c ∧ c < s) ∧ (0 ≤ d ∧ d < s)
  | .into c d => (0 ≤ c ∧ c < s) ∧ (0 ≤ d ∧ d < s)
  | .fill b e c => (0 ≤ b ∧ b ≤ e ∧ e ≤ s) ∧ (0 ≤ c ∧ c < s)
  | .less c d r => (0 ≤ c ∧ c < s) ∧ (0 ≤ d ∧ d < s) ∧ at_ < r ∧ r ≤ m
  | .same c d r => (0 ≤ c ∧ c < s) ∧ (0 ≤ d ∧ d < s) ∧ at_ < r ∧ r ≤ m
  | .tell c => 0 ≤ c ∧ c < s
  | .fork r => at_ < r ∧ r ≤ m
  | .fail => True
  | .done => True
theorem spWidth {n : Nat} {a : Addr} {μ : Mem} {Φ : AQ} {Ψ : AX} (h : Pot μ a)
    (K : ∀ w μ', 2 ≤ w → w ≤ 1000000000000000000 → Pot μ' a → Fr a μ μ' → Φ (.int w) μ') : xN T (n + 2) 49 [.ref a] μ Φ Ψ := by
  refine k_call (fd := d49) rfl rfl ?_
  show xSs T (xN T (n + 1)) b49 _ [some (.ref a)] μ
  unfold b49
  repeat array_get_dec
  refine spTake h (Fr.refl a μ) (by decide) (by decide) (fun x μ1 hx0 hx1 h f => ?_)
  repeat array_get_dec
  refine spTake h f (by decide) (by decide) (fun y μ2 hy0 hy1 h f => ?_)
  repeat array_get_dec
  refine spTake h f (by decide) (by decide) (fun z μ3 hz0 hz1 h f => ?_)
  have e : (10 : Int) ^ (18 : Int).toNat = 1000000000000000000 := by decide
  rcases (show z = 0 ∨ z = 1 ∨ z = 2 by omega) with rfl | rfl | rfl
  all_goals (
    repeat array_get_dec
    refine K _ _ ?_ ?_ h f <;> omega)
theorem spCell {n : Nat} {a : Addr} {s : Int} {μ0 μ : Mem} {Φ : AQ} {Ψ : AX} (h : Pot μ a) (f : Fr a μ0 μ) (hs : 2 ≤ s)
    (K : ∀ r μ', 0 ≤ r → r < s → Pot μ' a → Fr a μ0 μ' → Φ (.int r) μ') : xN T (n + 2) 50 [.ref a, .int s] μ Φ Ψ := by
  refine k_call (fd := d50) rfl rfl ?_
  show xSs T (xN T (n + 1)) b50 _ [some (.ref a), some (.int s)] μ
  unfold b50
  repeat array_get_dec
  rw [min_if]
  refine spTake h f (by omega) (by omega) (fun x μ1 hx0 hx1 h f => ?_)
  repeat array_get_dec
  rw [min_if]
  refine spTake h f (by omega) (by omega) (fun y μ2 hy0 hy1 h f => ?_)
  repeat array_get_dec
  refine spTake h f (by decide) (by decide) (fun z μ3 hz0 hz1 h f => ?_)
  rcases (show z = 0 ∨ z = 1 ∨ z = 2 by omega) with rfl | rfl | rfl
  all_goals (
    repeat array_get_dec
    refine K _ _ ?_ ?_ h f <;> omega)
theorem spMuch {n : Nat} {a : Addr} {s : Int} {μ0 μ : Mem} {Φ : AQ} {Ψ : AX} (h : Pot μ a) (f : Fr a μ0 μ) (hs : 2 ≤ s) (hs2 : s ≤ 1000000000000000000)
    (K : ∀ v μ', -100000000000000000000 ≤ v → v ≤ 100000000000000000000 → Pot μ' a → Fr a μ0 μ' → Φ (.int v) μ') : xN T (n + 2) 51 [.ref a, .int s] μ Φ Ψ := by
  refine k_call (fd := d51) rfl rfl ?_
  show xSs T (xN T (n + 1)) b51 _ [some (.ref a), some (.int s), none, none] μ
  unfold b51
  have e20 : (10 : Int) ^ (20 : Int).toNat = 100000000000000000000 := by decide
  have e19 : (10 : Int) ^ (19 : Int).toNat = 10000000000000000000 := by decide
  repeat array_get_dec
  rw [e20]
  refine spTake h f (by decide) (by decide) (fun x μ1 hx0 hx1 h f => ?_)
  repeat array_get_dec
  rw [e19]
  refine spTake h f (by decide) (by decide) (fun y μ2 hy0 hy1 h f => ?_)
  have hy : ∃ b : Int, atI [D.int (-1), D.int s, D.int (s - 1)] y = some (.int b) ∧ -1 ≤ b ∧ b ≤ s := by
    rcases (show y = 0 ∨ y = 1 ∨ y = 2 by omega) with rfl | rfl | rfl
    · exact ⟨-1, rfl, by omega, by omega⟩
    · exact ⟨s, rfl, by omega, by omega⟩
    · exact ⟨s - 1, rfl, by omega, by omega⟩
  obtain ⟨b, hb, hb1, hb2⟩ := hy
  repeat array_get_dec
  refine u_seq sq_list hb ?_
  repeat array_get_dec
  refine spTake h f (by decide) (by decide) (fun u μ3 hu0 hu1 h f => ?_)
  repeat array_get_dec
  rw [min_if]
  refine spTake h f (by omega) (by omega) (fun v μ4 hv0 hv1 h f => ?_)
  repeat array_get_dec
  refine spTake h f (by decide) (by decide) (fun z μ5 hz0 hz1 h f => ?_)
  rcases (show z = 0 ∨ z = 1 ∨ z = 2 ∨ z = 3 by omega) with rfl | rfl | rfl | rfl
  · repeat array_get_dec
    refine K _ _ ?_ ?_ h f <;> omega
  · repeat array_get_dec
    refine K _ _ ?_ ?_ h f <;> omega
  · repeat array_get_dec
    refine K _ _ ?_ ?_ h f <;> omega
  · refine u_seq sq_list rfl ?_
    repeat array_get_dec
    refine K _ _ ?_ ?_ h f <;> omega
end Fk
end
section
set_option maxHeartbeats 4000000
namespace Fk
open PySem PySem.Spec PyProof.Rows L2
theorem spWritten {n : Nat} {a : Addr} {s m at_ y : Int} {μ0 μ : Mem} {Φ : AQ} {Ψ : AX} (h : Pot μ a) (f : Fr a μ0 μ) (hs : 2 ≤ s) (hs2 : s ≤ 1000000000000000000) (hy : 0 ≤ y ∧ y < 8)
    (K : ∀ i μ', Ins.ok s m at_ i → Pot μ' a → Fr a μ0 μ' → Φ (insD i) μ') : xN T (n + 3) 52 [.ref a, .int s, .int y] μ Φ Ψ := by
  refine k_call (fd := d52) rfl rfl ?_
  show xSs T (xN T (n + 2)) b52 _ [some (.ref a), some (.int s), some (.int y), none, none] μ
  unfold b52
  repeat array_get_dec
  refine spCell h f hs (fun c μ1 hc0 hc1 h f => ?_)
  repeat array_get_dec
  refine spCell h f hs (fun d μ2 hd0 hd1 h f => ?_)
  repeat array_get_dec
  refine q_d (fun hy3 => ?_) (fun hy3 => ?_)
  · repeat array_get_dec
    refine spMuch h f hs hs2 (fun v μ3 hv0 hv1 h f => ?_)
    repeat array_get_dec
    exact K (.put c v) _ ⟨⟨hc0, hc1⟩, hv0, hv1⟩ h f
  · repeat array_get_dec
    refine q_d (fun hy5 => ?_) (fun hy5 => ?_)
    · repeat array_get_dec
      rw [min_if, max_if]
      refine spTake h f (by decide) (by decide) (fun t μ3 ht0 ht1 h f => ?_)
      repeat array_get_dec
      refine spCell h f hs (fun e μ4 he0 he1 h f => ?_)
      repeat array_get_dec
      exact K (.fill (min c d) (max c d + t) e) _ ⟨⟨by omega, by omega, by omega⟩, he0, he1⟩ h f
    · rcases (show y = 3 ∨ y = 4 ∨ y = 6 ∨ y = 7 by omega) with rfl | rfl | rfl | rfl
      · repeat array_get_dec
        exact K (.move c d) _ ⟨⟨hc0, hc1⟩, hd0, hd1⟩ h f
      · repeat array_get_dec
        exact K (.add c d) _ ⟨⟨hc0, hc1⟩, hd0, hd1⟩ h f
      · repeat array_get_dec
        exact K (.from_ c d) _ ⟨⟨hc0, hc1⟩, hd0, hd1⟩ h f
      · repeat array_get_dec
        exact K (.into c d) _ ⟨⟨hc0, hc1⟩, hd0, hd1⟩ h f
theorem spRowDrawn {n : Nat} {a : Addr} {s m at_ fk : Int} {μ0 μ : Mem} {Φ : AQ} {Ψ : AX} (h : Pot μ a) (f : Fr a μ0 μ) (hs : 2 ≤ s) (hs2 : s ≤ 1000000000000000000) (ha : 0 ≤ at_ ∧ at_ < m) (hm : m ≤ 1000)
    (K : ∀ i μ', Ins.ok s m at_ i → Pot μ' a → Fr a μ0 μ' → Φ (insD i) μ') : xN T (n + 4) 53 [.ref a, .int s, .int at_, .int m, .int fk] μ Φ Ψ := by
  refine k_call (fd := d53) rfl rfl ?_
  show xSs T (xN T (n + 3)) b53 _ [some (.ref a), some (.int s), some (.int at_), some (.int m), some (.int fk), none, none, none, none] μ
  unfold b53
  repeat array_get_dec
  refine spTake h f (by decide) (by decide) (fun y μ1 hy0 hy1 h f => ?_)
  repeat array_get_dec
  refine spTake h f (by omega) (by omega) (fun o μ1 ho0 ho1 h f => ?_)
  repeat array_get_dec
  refine spCell h f hs (fun c μ2 hc0 hc1 h f => ?_)
  repeat array_get_dec
  refine spCell h f hs (fun d μ3 hd0 hd1 h f => ?_)
  repeat array_get_dec
  refine q_d (fun hy8 => ?_) (fun hy8 => ?_)
  · repeat array_get_dec
    exact spWritten h f hs hs2 ⟨hy0, hy8⟩ K
  · repeat array_get_dec
    have e : ([PyData.int 8, PyData.int 9].any fun z => PyData.eqv z (.int y)) = decide (y = 8 ∨ y = 9) := by
      simp only [List.any_cons, List.any_nil, PyData.eqv, Bool.or_false]
      by_cases e8 : y = 8
      · subst e8; rfl
      · by_cases e9 : y = 9
        · subst e9; rfl
        · rw [decide_eq_false (by omega : ¬ (y = 8 ∨ y = 9))]
          have a1 : ((8 : Int) == y) = false := by simp; omega
          have a2 : ((9 : Int) == y) = false := by simp; omega
          first
            | (rw [a1, a2]; rfl)
            | (simp; omega)
    refine s_inT (d := .int y) (es := [.int 8, .int 9]) rfl rfl (Nat.zero_le _) rfl (by decide +kernel) ?_
    rw [e]
    by_cases hz : y = 8 ∨ y = 9
    · rw [decide_eq_true hz]
      rcases hz with rfl | rfl
      · repeat array_get_dec
        exact K (.less c d (at_ + 1 + o)) _ ⟨⟨hc0, hc1⟩, ⟨hd0, hd1⟩, by omega, by omega⟩ h f
      · repeat array_get_dec
        exact K (.same c d (at_ + 1 + o)) _ ⟨⟨hc0, hc1⟩, ⟨hd0, hd1⟩, by omega, by omega⟩ h f
    · rw [decide_eq_false hz]
      repeat array_get_dec
      have fin : ∀ (μ' : Mem), μ' = μ3 → xSs T (xN T (n + 3)) (.cons (.ite (.cmp .Gt (.var 5) (.con (.int 14))) (.cons (.ret (.sub (.lst false (.cons (.tup (.cons (.con (.str "fail")) .nil)) (.cons (.tup (.cons (.con (.str "done")) .nil)) .nil))) (.bin false .Sub (.var 5) (.con (.int 15))))) .nil) .nil) (.cons (.ret (.tup (.cons (.con (.str "tell")) (.cons (.var 7) .nil)))) .nil)) ⟨fun _ μ' => Φ .non μ', Φ, fun _ _ => False, fun _ _ => False, fun c fs _ μ' => Ψ c fs μ'⟩ [some (.ref a), some (.int s), some (.int at_), some (.int m), some (.int fk), some (.int y), some (.int (at_ + 1 + o)), some (.int c), some (.int d)] μ' := by
        rintro μ' rfl
        repeat array_get_dec
        refine q_d (fun h14 => ?_) (fun h14 => ?_)
        · rcases (show y = 15 ∨ y = 16 by omega) with rfl | rfl
          · repeat array_get_dec
            exact K .fail _ trivial h f
          · repeat array_get_dec
            exact K .done _ trivial h f
        · repeat array_get_dec
          exact K (.tell c) _ ⟨hc0, hc1⟩ h f
      refine q_d (fun h11 => ?_) (fun h11 => ?_)
      · repeat array_get_dec
        refine q_d (fun h15 => ?_) (fun h15 => ?_)
        · repeat array_get_dec
          refine q_d (fun h5 => ?_) (fun h5 => ?_)
          · repeat array_get_dec
            exact K (.fork (at_ + 1 + o)) _ ⟨by omega, by omega⟩ h f
          · repeat array_mem_dec
            exact fin _ rfl
        · repeat array_mem_dec
          exact fin _ rfl
      · repeat array_mem_dec
        exact fin _ rfl
end Fk
end
section
set_option maxHeartbeats 4000000
namespace Fk
open PySem PySem.Spec PyProof.Rows L2
/-- what was there stays, but for the pot -/
def ExA (a : Addr) (μ μ' : Mem) : Prop := ∀ c, c ≠ a → μ c ≠ none → μ' c = μ c
theorem ExA.refl (a : Addr) (μ : Mem) : ExA a μ μ := fun _ _ _ => rfl
theorem ExA.trans {a : Addr} {μ μ1 μ2 : Mem} (x : ExA a μ μ1) (y : ExA a μ1 μ2) : ExA a μ μ2 := fun c h1 h => (y c h1 (by rw [x c h1 h]; exact h)).trans (x c h1 h)
theorem Fr.exA {a : Addr} {μ μ' : Mem} (f : Fr a μ μ') : ExA a μ μ' := fun c h _ => f c h
theorem Ex.exA {a : Addr} {μ μ' : Mem} (f : Ex μ μ') : ExA a μ μ' := fun c _ h => f c h
theorem ExA.at {a c : Addr} {μ μ' : Mem} {o : MO} (x : ExA a μ μ') (h : μ c = some o) (hc : c ≠ a) : μ' c = some o := (x c hc (by rw [h]; simp)).trans h
theorem Ex.at {c : Addr} {μ μ' : Mem} {o : MO} (x : Ex μ μ') (h : μ c = some o) : μ' c = some o := (x c (by rw [h]; simp)).trans h
theorem Pot.ne {a c : Addr} {μ : Mem} (h : Pot μ a) (hc : μ c = none) : c ≠ a := fun z => by subst z; obtain ⟨_, _, h⟩ := h; rw [h] at hc; cases hc
theorem Pot.ex {a : Addr} {μ μ' : Mem} (h : Pot μ a) (e : Ex μ μ') : Pot μ' a := by
  obtain ⟨p, q, h⟩ := h
  exact ⟨p, q, e.at h⟩
/-- a new list, beside a pot -/
theorem n_tA {a : Addr} {μ0 μ : Mem} {ds : List D} {Φ : AQ} (hP : Pot μ a) (hE : ExA a μ0 μ) (q : ∀ p μ', μ0 p = none → p ≠ a → μ' p = some (.lst ds) → Pot μ' a → ExA a μ0 μ' → Φ (.ref p) μ') : xnewL true ds μ Φ := by
  refine n_t (fun p hp => ?_)
  have hpa := hP.ne hp
  have h0 : μ0 p = none := by
    cases h : μ0 p with
    | none => rfl
    | some o =>
      have z := hE.at h hpa
      rw [hp] at z; cases z
  refine q p _ h0 hpa mset_same ?_ ?_
  · obtain ⟨x, y, h⟩ := hP
    exact ⟨x, y, (mset_ne hpa.symm).trans h⟩
  · intro c hc h
    exact (mset_ne (fun z => by subst z; exact h h0)).trans (hE c hc h)
theorem Pot.set {a p : Addr} {μ : Mem} {o : MO} (h : Pot μ a) (hp : p ≠ a) : Pot (mset μ p o) a := by
  obtain ⟨x, y, h⟩ := h
  exact ⟨x, y, (mset_ne hp.symm).trans h⟩
theorem ExA.set {a p : Addr} {μ0 μ : Mem} {o : MO} (h : ExA a μ0 μ) (hp : μ0 p = none) : ExA a μ0 (mset μ p o) := fun c hc h2 => (mset_ne (fun z => by subst z; exact h2 hp)).trans (h c hc h2)
theorem ExA.fr {a : Addr} {μ0 μ μ' : Mem} (h : ExA a μ0 μ) (f : Fr a μ μ') : ExA a μ0 μ' := fun c hc h2 => (f c hc).trans (h c hc h2)
def loopI (t : Int) (fk : List Int) : List Ins := [.put 0 0, .put 1 1, .put 2 (1 + t), .add 0 1] ++ (fk.map Ins.fork ++ [.less 0 2 3])
/-- what stands ahead: nothing, or a loop -/
def LoopOk (s : Int) (is : List Ins) : Prop := is = [] ∨ (3 ≤ s ∧ ∃ t fk, 0 ≤ t ∧ t < 4 ∧ (fk = [] ∨ fk = [5] ∨ fk = [6]) ∧ is = loopI t fk)
def headI (t : Int) : List Ins := [.put 0 0, .put 1 1, .put 2 (1 + t), .add 0 1]
theorem spLoop {n : Nat} {a : Addr} {s : Int} {μ : Mem} {Φ : AQ} {Ψ : AX} (h : Pot μ a) (hs : 2 ≤ s)
    (K : ∀ p is μ', μ p = none → p ≠ a → μ' p = some (.lst (is.map insD)) → LoopOk s is → Pot μ' a → ExA a μ μ' → Φ (.ref p) μ') : xN T (n + 2) 54 [.ref a, .int s] μ Φ Ψ := by
  refine k_call (fd := d54) rfl rfl ?_
  show xSs T (xN T (n + 1)) b54 _ [some (.ref a), some (.int s), none] μ
  unfold b54
  have fin : ∀ (p : Addr) (t : Int) (fk : List Int) (μ' : Mem), 3 ≤ s → 0 ≤ t → t < 4 → (fk = [] ∨ fk = [5] ∨ fk = [6]) → p ≠ a → μ p = none → μ' p = some (.lst ((headI t ++ fk.map Ins.fork).map insD)) → Pot μ' a → ExA a μ μ' →
      xSs T (xN T (n + 1)) (.cons (.ret (.bin true .Add (.var 2) (.lst false (.cons (.tup (.cons (.con (.str "less")) (.cons (.con (.int 0)) (.cons (.con (.int 2)) (.cons (.con (.int 3)) .nil))))) .nil)))) .nil) ⟨fun _ μ' => Φ .non μ', Φ, fun _ _ => False, fun _ _ => False, fun c fs _ μ' => Ψ c fs μ'⟩ [some (.ref a), some (.int s), some (.ref p)] μ' := by
    intro p t fk μ' h3 ht0 ht1 hfk hpa hp0 hp hP hE
    repeat array_get_dec
    refine b_lstR hp ?_ ?_
    · rcases hfk with rfl | rfl | rfl <;> exact Nat.le_of_ble_eq_true rfl
    · refine n_tA hP hE (fun q μ2 hq0 hqa hq hP hE => ?_)
      refine K q (loopI t fk) μ2 hq0 hqa ?_ (.inr ⟨h3, t, fk, ht0, ht1, hfk, rfl⟩) hP hE
      rw [hq]
      unfold loopI headI
      simp only [List.map_append, List.map_cons, List.map_nil, List.cons_append, List.nil_append, List.append_assoc]
      rfl
  repeat array_get_dec
  refine q_d (fun h3 => ?_) (fun h3 => ?_)
  · repeat array_get_dec
    refine n_tA h (ExA.refl a μ) (fun p μ1 hp0 hpa hp hP hE => ?_)
    exact K p [] μ1 hp0 hpa hp (.inl rfl) hP hE
  · repeat array_get_dec
    refine spTake h (Fr.refl a μ) (by decide) (by decide) (fun x μ1 hx0 hx1 h f => ?_)
    repeat array_get_dec
    refine q_d (fun hx => ?_) (fun hx => ?_)
    · repeat array_get_dec
      refine n_tA h (ExA.refl a μ |>.fr f) (fun p μ1 hp0 hpa hp hP hE => ?_)
      exact K p [] μ1 hp0 hpa hp (.inl rfl) hP hE
    · repeat array_get_dec
      refine spTake h f (by decide) (by decide) (fun t μ2 ht0 ht1 h f => ?_)
      repeat array_get_dec
      refine n_tA h (ExA.refl a μ |>.fr f) (fun p μ3 hp0 hpa hp hP hE => ?_)
      repeat array_get_dec
      refine spTake hP (Fr.refl a μ3) (by decide) (by decide) (fun z μ4 hz0 hz1 h f => ?_)
      have hp4 := (f p hpa).trans hp
      have hE4 := hE.fr f
      repeat array_get_dec
      refine q_d (fun hz => ?_) (fun hz => ?_)
      · repeat array_get_dec
        refine r_bmA hp4 ?_
        repeat array_get_dec
        refine spTake h (Fr.refl a μ4) (by decide) (by decide) (fun y μ5 hy0 hy1 h f => ?_)
        have hp5 := (f p hpa).trans hp4
        have hE5 := hE4.fr f
        rcases (show y = 0 ∨ y = 1 by omega) with rfl | rfl
        · repeat array_get_dec
          refine r_app hp5 (Nat.le_of_ble_eq_true rfl) ?_
          repeat array_mem_dec
          exact fin p t [5] _ (by omega) ht0 ht1 (.inr (.inl rfl)) hpa hp0 mset_same (h.set hpa) (hE5.set hp0)
        · repeat array_get_dec
          refine r_app hp5 (Nat.le_of_ble_eq_true rfl) ?_
          repeat array_mem_dec
          exact fin p t [6] _ (by omega) ht0 ht1 (.inr (.inr rfl)) hpa hp0 mset_same (h.set hpa) (hE5.set hp0)
      · repeat array_mem_dec
        exact fin p t [] μ4 (by omega) ht0 ht1 (.inl rfl) hpa hp0 hp4 h hE4
end Fk
end
section
set_option maxHeartbeats 4000000
namespace Fk
open PySem PySem.Spec PyProof.Rows L2
theorem insD_head (i : Ins) : ∃ w t, insD i = .tup (.str w :: t) := by cases i <;> exact ⟨_, _, rfl⟩
/-- the rows of a plan: a loop or nothing, then rows that go forward -/
def PlanAt (s m : Int) (lp is : List Ins) : Prop := LoopOk s lp ∧ ∃ rest, is = lp ++ rest ∧ ∀ (k : Nat) (i : Ins), rest[k]? = some i → i.ok s m (lp.length + k)
theorem LoopOk.len {s : Int} {lp : List Ins} (h : LoopOk s lp) : lp.length ≤ 6 := by
  rcases h with rfl | ⟨_, t, fk, _, _, hf, rfl⟩
  · simp
  · rcases hf with rfl | rfl | rfl <;> simp [loopI]
theorem spPlan {n : Nat} {a : Addr} {μ : Mem} {Φ : AQ} {Ψ : AX} (h : Pot μ a)
    (K : ∀ s p lp is μ', 2 ≤ s → s ≤ 1000000000000000000 → μ p = none → p ≠ a → μ' p = some (.lst (is.map insD)) → PlanAt s is.length lp is → is.length ≤ 20 → Pot μ' a → ExA a μ μ' → Φ (.tup [.int s, .ref p]) μ') : xN T (n + 5) 55 [.ref a, .int 14] μ Φ Ψ := by
  refine k_call (fd := d55) rfl rfl ?_
  show xSs T (xN T (n + 4)) b55 _ [some (.ref a), some (.int 14), none, none, none, none, none, none] μ
  unfold b55
  repeat array_get_dec
  refine spWidth h (fun s μ1 hs hs2 h f => ?_)
  repeat array_get_dec
  refine spLoop h hs (fun p lp μ2 hp0 hpa hp hlp h hE => ?_)
  have hpm : μ p = none := by rw [← f p hpa]; exact hp0
  have hE2 : ExA a μ μ2 := (ExA.refl a μ |>.fr f).trans hE
  have hl := hlp.len
  repeat array_get_dec
  refine spTake h (Fr.refl a μ2) (by decide) (by decide) (fun x μ3 hx0 hx1 h f => ?_)
  have hp3 := (f p hpa).trans hp
  have hE3 := hE2.fr f
  repeat array_get_dec
  refine i_ref hp3 ?_
  refine comp_inv (fun items acc μ' => μ' = μ3 ∧ (∀ x ∈ items, ∃ i, x = insD i) ∧ acc.length + items.length ≤ 1000) ?_ ?_ _ _ _ ⟨rfl, fun x hx => by obtain ⟨i, _, rfl⟩ := List.mem_map.mp hx; exact ⟨i, rfl⟩, by rw [List.length_map]; simp; omega⟩
  · rintro acc _ ⟨rfl, _, hacc⟩
    refine ⟨hp3, ?_⟩
    repeat array_get_dec
    rw [List.length_map]
    generalize hm : (lp.length : Int) + x = m
    refine w_while (fun j ρ μ' => ∃ rest x6 x7, ρ = [some (.ref a), some (.int 14), some (.int s), some (.ref p), some (.int m), some (.int (acc.length : Int)), x6, x7] ∧ μ' p = some (.lst ((lp ++ rest).map insD)) ∧ lp.length + rest.length + j = m.toNat ∧ (∀ (k : Nat) (i : Ins), rest[k]? = some i → i.ok s m (lp.length + k)) ∧ Pot μ' a ∧ ExA a μ μ') x.toNat ?_ ?_
    · rintro j ρ μ' K2 hK ⟨rest, x6, x7, rfl, hp4, hj, hr, h, hE⟩
      have el : ((lp ++ rest).map insD).length = lp.length + rest.length := by simp
      repeat array_get_dec
      refine q_d (fun hc => ?_) (fun hc => ?_)
      · repeat array_get_dec
        refine i_ref hp4 ?_
        refine comp_inv (fun items ac μ'' => μ'' = μ' ∧ (∀ x ∈ items, ∃ i, x = insD i) ∧ ac.length + items.length ≤ 1000) ?_ ?_ _ _ _ ⟨rfl, fun x hx => by obtain ⟨i, _, rfl⟩ := List.mem_map.mp hx; exact ⟨i, rfl⟩, by rw [el]; simp; omega⟩
        · rintro ac _ ⟨rfl, _, hac⟩
          refine ⟨hp4, ?_⟩
          repeat array_get_dec
          refine r_bmA hp4 ?_
          repeat array_get_dec
          refine spRowDrawn h (Fr.refl a _) hs hs2 (by omega) (by omega) (fun i μ5 hi h f => ?_)
          have hp5 := (f p hpa).trans hp4
          repeat array_get_dec
          refine r_app hp5 (by rw [el]; have e1 : sizeLine = 16777216 := rfl; omega) ?_
          repeat array_get_dec
          refine hK (j - 1) _ _ (by omega) ⟨rest ++ [i], _, _, rfl, ?_, by simp; omega, ?_, h.set hpa, (hE.fr f).set hpm⟩
          · rw [mset_same]
            simp only [List.map_append, List.map_cons, List.map_nil, List.append_assoc]
          · intro k i' hk
            by_cases hk2 : k < rest.length
            · rw [List.getElem?_append_left hk2] at hk
              exact hr k i' hk
            · rw [List.getElem?_append_right (by omega)] at hk
              have hk3 : k = rest.length := by
                have := (List.getElem?_eq_some_iff.mp hk).1
                simp at this
                omega
              subst hk3
              rw [Nat.sub_self] at hk
              cases hk
              rw [el] at hi
              simpa using hi
        · rintro x xs ac _ N2 hN2 ⟨rfl, hx2, hl2⟩
          refine ⟨hp4, ?_⟩
          obtain ⟨i, rfl⟩ := hx2 x (by simp)
          obtain ⟨w2, t2, e2⟩ := insD_head i
          rw [e2]
          repeat array_get_dec
          simp only [List.length_cons] at hl2
          refine q_d (fun hw2 => ?_) (fun hw2 => ?_)
          · repeat array_get_dec
            exact ⟨by omega, hN2 _ _ ⟨rfl, fun y hy => hx2 y (by simp [hy]), by simp; omega⟩⟩
          · exact hN2 _ _ ⟨rfl, fun y hy => hx2 y (by simp [hy]), by omega⟩
      · repeat array_get_dec
        have e3 : ((lp ++ rest).length : Int) = m := by rw [List.length_append]; omega
        refine K s p lp (lp ++ rest) μ' hs hs2 hpm hpa hp4 ⟨hlp, rest, rfl, ?_⟩ (by rw [List.length_append]; omega) h hE
        rw [e3]
        exact hr
    · exact ⟨[], none, none, rfl, by rw [List.append_nil]; exact hp3, by simp; omega, fun k i hk => by simp at hk, h, hE3⟩
  · rintro x xs acc _ N2 hN2 ⟨rfl, hx2, hl2⟩
    refine ⟨hp3, ?_⟩
    obtain ⟨i, rfl⟩ := hx2 x (by simp)
    obtain ⟨w2, t2, e2⟩ := insD_head i
    rw [e2]
    repeat array_get_dec
    simp only [List.length_cons] at hl2
    refine q_d (fun hw2 => ?_) (fun hw2 => ?_)
    · repeat array_get_dec
      exact ⟨by omega, hN2 _ _ ⟨rfl, fun y hy => hx2 y (by simp [hy]), by simp; omega⟩⟩
    · exact hN2 _ _ ⟨rfl, fun y hy => hx2 y (by simp [hy]), by omega⟩
end Fk
end
section
set_option maxHeartbeats 4000000
namespace Fk
open PySem PySem.Spec PyProof.Rows L2
theorem ins_row {s m at_ : Int} {i : Ins} (h : i.ok s m at_) (ha : -1 ≤ at_) : Row s m (insD i) := by
  cases i with
  | put c v => exact .put c v h.1 ⟨by have := h.2.1; omega, by have := h.2.2; omega⟩
  | move c d => exact .two _ c d (.inl rfl) h.1 h.2
  | add c d => exact .two _ c d (.inr (.inl rfl)) h.1 h.2
  | from_ c d => exact .two _ c d (.inr (.inr (.inl rfl))) h.1 h.2
  | into c d => exact .two _ c d (.inr (.inr (.inr rfl))) h.1 h.2
  | fill b e c => exact .fill b e c h.1 h.2
  | less c d r => exact .on _ c d r (.inl rfl) h.1 h.2.1 ⟨by have := h.2.2.1; omega, h.2.2.2⟩
  | same c d r => exact .on _ c d r (.inr rfl) h.1 h.2.1 ⟨by have := h.2.2.1; omega, h.2.2.2⟩
  | tell c => exact .tell c h
  | fork r => exact .fork r ⟨by have := h.1; omega, h.2⟩
  | fail => exact .fail
  | done => exact .done
/-- every row of a plan is a right one -/
theorem plan_rows {s : Int} {lp is : List Ins} (h : PlanAt s is.length lp is) : ∀ d ∈ is.map insD, Row s is.length d := by
  obtain ⟨hlp, rest, e, hr⟩ := h
  intro d hd
  obtain ⟨i, hi, rfl⟩ := List.mem_map.mp hd
  have hi2 : i ∈ lp ++ rest := by rw [← e]; exact hi
  rcases List.mem_append.mp hi2 with h1 | h1
  · rcases hlp with rfl | ⟨h3, t, fk, ht0, ht1, hf, rfl⟩
    · cases h1
    · have hlen : ((loopI t fk).length : Int) ≤ is.length := by rw [e, List.length_append]; omega
      have p0 : ∀ c : Int, 0 ≤ c → c ≤ 2 → 0 ≤ c ∧ c < s := fun c a b => ⟨a, by omega⟩
      have base : ∀ i ∈ headI t, Row s is.length (insD i) := by
        intro i hi
        simp only [headI, List.mem_cons, List.not_mem_nil, or_false] at hi
        rcases hi with rfl | rfl | rfl | rfl
        · exact .put 0 0 (p0 0 (by omega) (by omega)) (by omega)
        · exact .put 1 1 (p0 1 (by omega) (by omega)) (by omega)
        · exact .put 2 (1 + t) (p0 2 (by omega) (by omega)) (by omega)
        · exact .two _ 0 1 (.inr (.inl rfl)) (p0 0 (by omega) (by omega)) (p0 1 (by omega) (by omega))
      have hl5 : (5 : Int) ≤ (loopI t fk).length := by rcases hf with rfl | rfl | rfl <;> simp [loopI]
      have less : Row s is.length (insD (.less 0 2 3)) := .on _ 0 2 3 (.inl rfl) (p0 0 (by omega) (by omega)) (p0 2 (by omega) (by omega)) ⟨by omega, by omega⟩
      rcases List.mem_append.mp h1 with h2 | h2
      · exact base i h2
      · rcases hf with rfl | rfl | rfl
        · simp at h2; subst h2; exact less
        · simp at h2
          rcases h2 with rfl | rfl
          · have : ((loopI t [5]).length : Int) = 6 := rfl
            exact .fork 5 ⟨by omega, by omega⟩
          · exact less
        · simp at h2
          rcases h2 with rfl | rfl
          · have : ((loopI t [6]).length : Int) = 6 := rfl
            exact .fork 6 ⟨by omega, by omega⟩
          · exact less
  · obtain ⟨k, hk⟩ := List.mem_iff_getElem?.mp h1
    exact ins_row (hr k i hk) (by omega)
end Fk
end
section
set_option maxHeartbeats 4000000
namespace Fk
open PySem PySem.Spec PyProof.Rows L2
theorem firstBad_none {s m : Int} : ∀ {ds : List D} {k : Nat}, (∀ d ∈ ds, pRow s m d = true) → firstBad s m ds k = none
  | [], _, _ => rfl
  | d :: ds, k, h => by
    unfold firstBad
    rw [if_pos (h d (by simp))]
    exact firstBad_none fun e he => h e (by simp [he])
/-- a program that is let -/
theorem spMake {n : Nat} {rws : D} {s : Int} {ds : List D} {μ : Mem} {Φ : AQ} {Ψ : AX} (hl : LstD μ rws (some ds)) (hs : 1 ≤ s) (hs2 : s ≤ 1000000000000000000) (he : ∀ d ∈ ds, Ent d) (hr : ∀ d ∈ ds, pRow s ds.length d = true)
    (K : ∀ p μ', μ p = none → μ' p = some (prO s ds) → Ex μ μ' → Φ (.ref p) μ') : newQ T (xN T (n + 4)) 11 [.int s, rws] μ Φ Ψ := by
  refine r_newQ rfl (fun p hp => ?_)
  have hl2 : LstD (mset μ p (.ins 11 [])) rws (some ds) := by
    rcases hl with h | ⟨r, h, h2⟩
    · exact .inl h
    · exact .inr ⟨r, h, (mset_ne fun z => by subst z; rw [hp] at h2; cases h2).trans h2⟩
  refine spInit mset_same rfl hl2 (fun ds' e => by cases e; exact he) ?_
  have e : dueL (.int s) (some ds) = .made s ds := by
    unfold dueL
    dsimp only
    rw [inR_int, decide_eq_true hs, decide_eq_true hs2, firstBad_none hr]
    rfl
  rw [e]
  dsimp only
  rw [mset_mset]
  exact K p _ hp mset_same ((Ex.refl μ).new hp)
/-- the program of a plan -/
theorem spProgram {n : Nat} {s : Int} {lp is : List Ins} {μ : Mem} {Φ : AQ} {Ψ : AX} (h : PlanAt s is.length lp is) (hl : is.length ≤ 20) (hs : 1 ≤ s) (hs2 : s ≤ 1000000000000000000)
    (K : ∀ p μ', μ p = none → μ' p = some (prO s (is.map insD)) → Ex μ μ' → Φ (.ref p) μ') : newQ T (xN T (n + 4)) 11 [.int s, .list (is.map insD)] μ Φ Ψ := by
  have hr := plan_rows h
  have e : ((is.map insD).length : Int) = is.length := by rw [List.length_map]
  exact spMake (.inl rfl) hs hs2 (fun d hd => ((hr d hd).ent hs2 (by omega)).1) (fun d hd => by rw [e]; exact pRow_ok (hr d hd)) K
end Fk
end
section
set_option maxHeartbeats 4000000
namespace Fk
open PySem PySem.Spec PyProof.Rows L2
/-! the class Lone -/
/-- its fields: the rows, the memory, the numbers told, the word of rest, the next row -/
def loneO (ds : List D) (c q : Addr) (w : Str) (k : Int) : MO := .ins 10 [(2, .list ds), (3, .ref c), (4, .ref q), (5, .str w), (6, .int k)]
theorem spRest {n : Nat} {p c q : Addr} {ds : List D} {w v : Str} {k : Int} {μ : Mem} {Φ : AQ} {Ψ : AX} (hp : μ p = some (loneO ds c q w k)) (K : Φ .non (mset μ p (loneO ds c q v (-1)))) : xN T (n + 1) 27 [.ref p, .str v] μ Φ Ψ := by
  refine k_call (fd := d27) rfl rfl ?_
  show xSs T (xN T n) b27 _ [some (.ref p), some (.str v)] μ
  unfold b27
  repeat array_get_dec
  refine r_saQ hp rfl rfl rfl ?_
  repeat array_get_dec
  refine r_saQ mset_same rfl rfl rfl ?_
  rw [mset_mset]
  repeat array_get_dec
  exact K
def isDone : Ins → Bool
  | .done => true
  | _ => false
theorem s_done {i : Ins} {μ : Mem} {Φ : AQ} (q : Φ (.bl (isDone i)) μ) : xcmpS .Eq (insD i) (.tup [.str "done"]) μ Φ := by
  refine xcmpS_ok (d := .bl (isDone i)) ?_ q
  cases i <;> (
    show (evEq μ (.tup _) (.tup _)).map D.bl = _
    unfold evEq deref
    simp [D.py, D.pyL, PyData.eqv, PyData.eqvAll, SeqAt.shaped, PyData.canLay0, PyData.canLayAll0, PyData.depth, PyData.depthAll, isDone]
    try decide +kernel)
theorem spComeTo {n : Nat} {p c q : Addr} {is : List Ins} {w : Str} {k pl : Int} {μ : Mem} {Φ : AQ} {Ψ : AX} (hp : μ p = some (loneO (is.map insD) c q w k)) (h0 : 0 ≤ pl) (h1 : pl ≤ is.length)
    (K : Φ .non (mset μ p (if (is[pl.toNat]?.map isDone).getD true then loneO (is.map insD) c q "done" (-1) else loneO (is.map insD) c q w pl))) : xN T (n + 2) 26 [.ref p, .int pl] μ Φ Ψ := by
  refine k_call (fd := d26) rfl rfl ?_
  show xSs T (xN T (n + 1)) b26 _ [some (.ref p), some (.int pl)] μ
  unfold b26
  repeat array_get_dec
  refine r_attrQ hp rfl rfl ?_
  repeat array_get_dec
  rw [List.length_map]
  refine q_d (fun he => ?_) (fun he => ?_)
  · repeat array_get_dec
    refine r_methQ hp rfl ?_
    repeat array_get_dec
    refine spRest hp ?_
    repeat array_get_dec
    rw [List.getElem?_eq_none (by omega)] at K
    exact K
  · have hlt : pl.toNat < is.length := by omega
    repeat array_get_dec
    refine r_attrQ hp rfl rfl ?_
    repeat array_get_dec
    refine u_seq sq_list (d := insD is[pl.toNat]) ?_ ?_
    · unfold atI ixN
      rw [List.length_map, if_pos h0, if_pos (by omega)]
      simp only [Option.bind_some]
      rw [List.getElem?_map, List.getElem?_eq_getElem hlt]
      rfl
    rw [List.getElem?_eq_getElem hlt] at K
    generalize is[pl.toNat] = i at K ⊢
    obtain ⟨w2, t2, e2⟩ := insD_head i
    have go := @s_done i
    rw [e2] at go ⊢
    repeat array_get_dec
    refine go ?_
    rw [show (Option.map isDone (some i)).getD true = isDone i from rfl] at K
    cases hd : isDone i with
    | true =>
      rw [hd] at K
      repeat array_get_dec
      refine r_methQ hp rfl ?_
      repeat array_get_dec
      refine spRest hp ?_
      repeat array_get_dec
      exact K
    | false =>
      rw [hd] at K
      repeat array_get_dec
      refine r_saQ hp rfl rfl rfl ?_
      repeat array_get_dec
      exact K
end Fk
end
section
set_option maxHeartbeats 4000000
namespace Fk
open PySem PySem.Spec PyProof.Rows L2
/-! one path gone, as plain data -/
structure St where
  k : Int
  r : Rw
  t : List Int
  w : Str
def St.come (is : List Ins) (s : St) (pl : Int) : St := if (is[pl.toNat]?.map isDone).getD true then ⟨pl, s.r, s.t, "done"⟩ else ⟨pl, s.r, s.t, s.w⟩
def St.fail (s : St) : St := ⟨s.k, s.r, s.t, "failed"⟩
def St.lay (s : St) (b : Int) (v : Int) (e : Int) : St := ⟨s.k, layP b [(e - b, v)] e s.r, s.t, s.w⟩
def stepI (is : List Ins) (wd : Int) (s : St) : Ins → St
  | .put c v => (s.lay c v (c + 1)).come is (s.k + 1)
  | .move c d => (s.lay c (atP s.r d) (c + 1)).come is (s.k + 1)
  | .add c d => (s.lay c (atP s.r c + atP s.r d) (c + 1)).come is (s.k + 1)
  | .from_ c d => if 0 ≤ atP s.r d ∧ atP s.r d < wd then (s.lay c (atP s.r (atP s.r d)) (c + 1)).come is (s.k + 1) else s.fail
  | .into c d => if 0 ≤ atP s.r c ∧ atP s.r c < wd then (s.lay (atP s.r c) (atP s.r d) (atP s.r c + 1)).come is (s.k + 1) else s.fail
  | .fill b e c => (s.lay b (atP s.r c) e).come is (s.k + 1)
  | .less c d g => s.come is (if atP s.r c < atP s.r d then g else s.k + 1)
  | .same c d g => s.come is (if atP s.r c = atP s.r d then g else s.k + 1)
  | .tell c => (⟨s.k, s.r, s.t ++ [atP s.r c], s.w⟩ : St).come is (s.k + 1)
  | .fork _ => s
  | .fail => s.fail
  | .done => s
/-- as far as the letters lead -/
def goP (is : List Ins) (wd : Int) (bs : List Bool) : Nat → St → Nat → St × Nat
  | 0, s, u => (s, u)
  | n + 1, s, u => if s.w = "" then (match is[s.k.toNat]? with
    | some (.fork g) => (match bs[u]? with
      | some b => goP is wd bs n (s.come is (if b then g else s.k + 1)) (u + 1)
      | none => (s, u))
    | some i => goP is wd bs n (stepI is wd s i) u
    | none => (s, u)) else (s, u)
def lim (j : Nat) : Int := 100000000000000000000 * 2 ^ j
theorem lim_succ (j : Nat) : lim (j + 1) = lim j + lim j := by unfold lim; rw [Int.pow_succ]; omega
theorem lim_pos (j : Nat) : 100000000000000000000 ≤ lim j := by
  induction j with
  | zero => unfold lim; omega
  | succ j ih => rw [lim_succ]; omega
theorem lim_mono {i j : Nat} (h : i ≤ j) : lim i ≤ lim j := by
  induction j with
  | zero => rw [show i = 0 by omega]; exact Int.le_refl _
  | succ j ih =>
    by_cases e : i = j + 1
    · subst e; exact Int.le_refl _
    · have := ih (by omega)
      have := lim_pos j
      rw [lim_succ]; omega
theorem lim_top : lim 100 ≤ (10 : Int) ^ 60 := by unfold lim; decide
structure RowOk (wd : Int) (m : Nat) (r : Rw) : Prop where
  good : Good wd r
  len : r.length + 2 * m ≤ 201
  bd : ∀ c, 0 ≤ c → c < wd → -(lim (100 - m)) ≤ atP r c ∧ atP r c ≤ lim (100 - m)
theorem RowOk.mono {wd : Int} {m : Nat} {r : Rw} (h : RowOk wd (m + 1) r) : RowOk wd m r := by
  refine ⟨h.good, by have := h.len; omega, fun c h0 h1 => ?_⟩
  have h2 := h.bd c h0 h1
  have h3 := lim_mono (show 100 - (m + 1) ≤ 100 - m by omega)
  omega
theorem RowOk.lay {wd b e v : Int} {m : Nat} {r : Rw} (h : RowOk wd (m + 1) r) (hb : 0 ≤ b) (he : b ≤ e) (hw : e ≤ wd) (hv : -(lim (100 - m)) ≤ v ∧ v ≤ lim (100 - m)) : RowOk wd m (layP b [(e - b, v)] e r) := by
  have h' := h.mono
  have hl := h.len
  by_cases hz : 0 < e - b
  · have hp : Pos [(e - b, v)] := fun q hq => by rw [List.mem_singleton.mp hq]; exact hz
    have es : sumP [(e - b, v)] = e - b := by show e - b + 0 = e - b; omega
    obtain ⟨k1, k2, k3⟩ := layP_ok h.good hb he hw hp es
    refine ⟨k1, by simp only [List.length_cons, List.length_nil] at k3; omega, fun c h0 h1 => ?_⟩
    rw [k2 c h0 h1]
    split
    · exact h'.bd c h0 h1
    · split
      · show -(lim (100 - m)) ≤ (if c - b < e - b then v else atP [] _) ∧ (if c - b < e - b then v else atP [] _) ≤ _
        rw [if_pos (by omega)]
        exact hv
      · exact h'.bd c h0 h1
  · have hp : Pos [] := fun q hq => by cases hq
    have es : sumP [] = e - b := by show (0 : Int) = e - b; omega
    obtain ⟨k1, k2, k3⟩ := layP_ok h.good hb he hw hp es
    rw [layP_none hz]
    refine ⟨k1, by simp only [List.length_nil] at k3; omega, fun c h0 h1 => ?_⟩
    rw [k2 c h0 h1]
    split
    · exact h'.bd c h0 h1
    · rw [if_neg (by omega)]
      exact h'.bd c h0 h1
/-- how far it is to the end: in a loop ahead, or behind -/
def LPh (t : Int) (ll : Int) (m : Nat) (k : Int) (r : Rw) : Prop :=
  (k = 0 ∧ 60 ≤ m) ∨ (k = 1 ∧ atP r 0 = 0 ∧ 59 ≤ m) ∨ (k = 2 ∧ atP r 0 = 0 ∧ atP r 1 = 1 ∧ 58 ≤ m) ∨
  (atP r 1 = 1 ∧ atP r 2 = 1 + t ∧ ((k = 3 ∧ 0 ≤ atP r 0 ∧ atP r 0 ≤ t ∧ 22 + 3 * (t + 1 - atP r 0) ≤ m) ∨
    (1 ≤ atP r 0 ∧ atP r 0 ≤ t + 1 ∧ ((k = 4 ∧ ll = 6 ∧ 22 + 3 * (t + 1 - atP r 0) + 2 ≤ m) ∨ (k = ll - 1 ∧ 22 + 3 * (t + 1 - atP r 0) + 1 ≤ m)))))
def Phase (lp : List Ins) (ln : Int) (m : Nat) (k : Int) (r : Rw) : Prop := (lp.length ≤ k ∧ ln - k ≤ m) ∨ (∃ t fk, 0 ≤ t ∧ t < 4 ∧ (fk = [] ∨ fk = [5] ∨ fk = [6]) ∧ lp = loopI t fk ∧ LPh t lp.length m k r)
structure Liv (wd : Int) (lp is : List Ins) (m : Nat) (s : St) : Prop where
  m1 : m ≤ 100
  row : RowOk wd m s.r
  tl : s.t.length + m ≤ 100
  tb : ∀ v ∈ s.t, -(lim 100) ≤ v ∧ v ≤ lim 100
  wd_ : s.w = "" ∨ s.w = "done" ∨ s.w = "failed"
  pl : 0 ≤ s.k ∧ s.k ≤ is.length
  lv : s.w = "" → ∃ i, is[s.k.toNat]? = some i ∧ isDone i = false
  ph : s.w = "" → Phase lp is.length m s.k s.r
theorem nd1 : (("done" : Str) = "") → False := by decide
theorem nd2 : (("failed" : Str) = "") → False := by decide
theorem come_liv {wd : Int} {lp is : List Ins} {m : Nat} {s : St} {p : Int} (m1 : m ≤ 100) (row : RowOk wd m s.r) (tl : s.t.length + m ≤ 100) (tb : ∀ v ∈ s.t, -(lim 100) ≤ v ∧ v ≤ lim 100) (hw : s.w = "") (hp : 0 ≤ p ∧ p ≤ is.length) (ph : Phase lp is.length m p s.r) : Liv wd lp is m (s.come is p) := by
  unfold St.come
  cases hg : is[p.toNat]? with
  | none => exact ⟨m1, row, tl, tb, .inr (.inl rfl), hp, (fun h => (nd1 h).elim), (fun h => (nd1 h).elim)⟩
  | some i =>
    show Liv wd lp is m (if isDone i = true then _ else _)
    cases hd : isDone i with
    | true => exact ⟨m1, row, tl, tb, .inr (.inl rfl), hp, (fun h => (nd1 h).elim), (fun h => (nd1 h).elim)⟩
    | false => exact ⟨m1, row, tl, tb, .inl hw, hp, fun _ => ⟨i, hg, hd⟩, fun _ => ph⟩
theorem fail_liv {wd : Int} {lp is : List Ins} {m : Nat} {s : St} (h : Liv wd lp is (m + 1) s) : Liv wd lp is m s.fail :=
  ⟨by have := h.m1; omega, h.row.mono, by have h1 := h.tl; show s.t.length + m ≤ 100; omega, h.tb, .inr (.inr rfl), h.pl, (fun h => (nd2 h).elim), (fun h => (nd2 h).elim)⟩
/-- the way on, behind a loop -/
theorem phase_fwd {lp : List Ins} {ln : Int} {m : Nat} {k g : Int} {r r' : Rw} (h : Phase lp ln (m + 1) k r) (hb : lp.length ≤ k) (hg : k < g) : Phase lp ln m g r' := by
  rcases h with ⟨h1, h2⟩ | ⟨t, fk, _, _, hf, rfl, h⟩
  · exact .inl ⟨by omega, by omega⟩
  · exfalso
    unfold LPh at h
    rcases hf with rfl | rfl | rfl <;> simp [loopI] at hb h <;> omega
theorem plan_tail {s : Int} {lp is : List Ins} {k : Int} {i : Ins} (hP : PlanAt s is.length lp is) (hb : lp.length ≤ k) (hi : is[k.toNat]? = some i) : i.ok s is.length k := by
  obtain ⟨_, rest, e, hr⟩ := hP
  rw [e, List.getElem?_append_right (by omega)] at hi
  have := hr _ i hi
  have e2 : (lp.length : Int) + ((k.toNat - lp.length : Nat) : Int) = k := by omega
  rw [e2] at this
  exact this
theorem at_lay {wd c v c' : Int} {r : Rw} (g : Good wd r) (hc : 0 ≤ c ∧ c < wd) (hc' : 0 ≤ c' ∧ c' < wd) : atP (layP c [(c + 1 - c, v)] (c + 1) r) c' = if c' = c then v else atP r c' := by
  have hp : Pos [(c + 1 - c, v)] := fun q hq => by rw [List.mem_singleton.mp hq]; show 0 < c + 1 - c; omega
  have es : sumP [(c + 1 - c, v)] = c + 1 - c := by show c + 1 - c + 0 = c + 1 - c; omega
  obtain ⟨_, k2, _⟩ := layP_ok g hc.1 (by omega : c ≤ c + 1) (by omega) hp es
  rw [k2 c' hc'.1 hc'.2]
  by_cases e : c' = c
  · rw [if_pos e, if_neg (by omega), if_pos (by omega)]
    show (if c' - c < c + 1 - c then v else _) = v
    rw [if_pos (by omega)]
  · rw [if_neg e]
    split
    · rfl
    · rw [if_neg (by omega)]
theorem lay1 {wd c v : Int} {m : Nat} {r : Rw} (h : RowOk wd (m + 1) r) (hc : 0 ≤ c ∧ c < wd) (hv : -(lim (100 - m)) ≤ v ∧ v ≤ lim (100 - m)) : RowOk wd m (layP c [(c + 1 - c, v)] (c + 1) r) := h.lay hc.1 (by omega) (by omega) hv
def isFork : Ins → Bool
  | .fork _ => true
  | _ => false
theorem step_liv {wd : Int} {lp is : List Ins} {m : Nat} {s : St} {i : Ins} (hP : PlanAt wd is.length lp is) (hm : is.length ≤ 20) (h : Liv wd lp is (m + 1) s) (hw : s.w = "") (hi : is[s.k.toNat]? = some i) (hf : isFork i = false) : Liv wd lp is m (stepI is wd s i) := by
  have m1 := h.m1
  have rw1 := h.row
  have rw0 := rw1.mono
  have tl := h.tl
  have tl0 : s.t.length + m ≤ 100 := by omega
  have ph := h.ph hw
  have hk := h.pl
  have hk2 : s.k < is.length := by have := (List.getElem?_eq_some_iff.mp hi).1; omega
  have bd0 := rw0.bd
  have dbl : lim (100 - m) = lim (100 - (m + 1)) + lim (100 - (m + 1)) := by rw [← lim_succ]; congr 1; omega
  have l0 := lim_pos (100 - m)
  by_cases hb : lp.length ≤ s.k
  · have ok := plan_tail hP hb hi
    have fw : ∀ g r', s.k < g → Phase lp is.length m g r' := fun g r' hg => phase_fwd ph hb hg
    have nx : ∀ (s' : St), s'.k = s.k → s'.w = "" → RowOk wd m s'.r → s'.t = s.t → Liv wd lp is m (s'.come is (s.k + 1)) := fun s' e1 e2 r1 e3 =>
      come_liv (by omega) r1 (by rw [e3]; exact tl0) (by rw [e3]; exact h.tb) e2 (by omega) (fw _ _ (by omega))
    cases i with
    | put c v => exact nx (s.lay c v (c + 1)) rfl hw (lay1 rw1 ok.1 ⟨by have := ok.2.1; omega, by have := ok.2.2; omega⟩) rfl
    | move c d => exact nx (s.lay c _ (c + 1)) rfl hw (lay1 rw1 ok.1 (bd0 d ok.2.1 ok.2.2)) rfl
    | add c d =>
      have b1 := rw1.bd c ok.1.1 ok.1.2
      have b2 := rw1.bd d ok.2.1 ok.2.2
      exact nx (s.lay c _ (c + 1)) rfl hw (lay1 rw1 ok.1 ⟨by omega, by omega⟩) rfl
    | from_ c d =>
      show Liv wd lp is m (if _ then _ else _)
      split
      · rename_i hg
        exact nx (s.lay c _ (c + 1)) rfl hw (lay1 rw1 ok.1 (bd0 _ hg.1 hg.2)) rfl
      · exact fail_liv h
    | into c d =>
      show Liv wd lp is m (if _ then _ else _)
      split
      · rename_i hg
        exact nx (s.lay _ _ _) rfl hw (lay1 rw1 hg (bd0 _ ok.2.1 ok.2.2)) rfl
      · exact fail_liv h
    | fill b e c => exact nx (s.lay b _ e) rfl hw (rw1.lay ok.1.1 ok.1.2.1 ok.1.2.2 (bd0 _ ok.2.1 ok.2.2)) rfl
    | less c d g =>
      refine come_liv (by omega) rw0 tl0 h.tb hw ?_ (fw _ _ ?_) <;> (have := ok.2.2; split <;> omega)
    | same c d g =>
      refine come_liv (by omega) rw0 tl0 h.tb hw ?_ (fw _ _ ?_) <;> (have := ok.2.2; split <;> omega)
    | tell c =>
      refine come_liv (s := ⟨s.k, s.r, s.t ++ [atP s.r c], s.w⟩) (by omega) rw0 (by simp; omega) ?_ hw (by omega) (fw _ _ (by omega))
      intro v hv
      rcases List.mem_append.mp hv with hv | hv
      · exact h.tb v hv
      · rw [List.mem_singleton.mp hv]
        have := bd0 c ok.1 ok.2
        have := lim_mono (show 100 - m ≤ 100 by omega)
        omega
    | fork g => cases hf
    | fail => exact fail_liv h
    | done =>
      obtain ⟨j, hj, hd⟩ := h.lv hw
      rw [hi] at hj; cases hj; cases hd
  · rcases ph with ⟨h1, _⟩ | ⟨t, fk, ht0, ht1, hfk, e, hL⟩
    · exact (hb h1).elim
    have hk3 : s.k.toNat < lp.length := by omega
    have hi2 : lp[s.k.toNat]? = some i := by
      obtain ⟨_, rest, e2, _⟩ := hP
      rw [e2, List.getElem?_append_left hk3] at hi
      exact hi
    have h3 : 3 ≤ wd := by
      rcases hP.1 with e2 | ⟨h3, _⟩
      · rw [e2] at hk3; simp at hk3
      · exact h3
    have g := rw1.good
    have c0 : 0 ≤ (0 : Int) ∧ (0 : Int) < wd := by omega
    have c1 : 0 ≤ (1 : Int) ∧ (1 : Int) < wd := by omega
    have c2 : 0 ≤ (2 : Int) ∧ (2 : Int) < wd := by omega
    have hl : lp.length = 5 + fk.length := by rw [e]; simp [loopI]; omega
    have hln : lp.length ≤ is.length := by
      obtain ⟨_, rest, e2, _⟩ := hP
      rw [e2, List.length_append]; omega
    have nx : ∀ (s' : St) (p : Int), s'.w = "" → RowOk wd m s'.r → s'.t = s.t → 0 ≤ p → p ≤ lp.length → (p < lp.length → LPh t lp.length m p s'.r) → is.length - lp.length ≤ m → Liv wd lp is m (s'.come is p) := fun s' p e2 r1 e3 p0 p1 p2 p3 =>
      come_liv (by omega) r1 (by rw [e3]; exact tl0) (by rw [e3]; exact h.tb) e2 (by omega) (by
        by_cases hp : p < lp.length
        · exact .inr ⟨t, fk, ht0, ht1, hfk, e, p2 hp⟩
        · exact .inl ⟨by omega, by omega⟩)
    have hm20 : ∀ n : Nat, 20 ≤ n → ((is.length : Int) - lp.length ≤ n) := fun n hn => by omega
    rcases hL with ⟨k0, hm0⟩ | ⟨k0, a0, hm0⟩ | ⟨k0, a0, a1, hm0⟩ | ⟨a1, a2, hL⟩
    · rw [k0, e] at hi2
      cases hi2
      show Liv wd lp is m ((s.lay 0 0 (0 + 1)).come is (s.k + 1))
      rw [k0]
      have z0 : atP (s.lay 0 0 (0 + 1)).r 0 = 0 := by
        show atP (layP 0 [(0 + 1 - 0, 0)] (0 + 1) s.r) 0 = 0
        rw [at_lay g c0 c0, if_pos rfl]
      exact nx _ _ hw (lay1 rw1 c0 (by omega)) rfl (by omega) (by omega) (fun _ => by unfold LPh; omega) (by omega)
    · rw [k0, e] at hi2
      cases hi2
      show Liv wd lp is m ((s.lay 1 1 (1 + 1)).come is (s.k + 1))
      rw [k0]
      have z0 : atP (s.lay 1 1 (1 + 1)).r 0 = 0 := by
        show atP (layP 1 [(1 + 1 - 1, 1)] (1 + 1) s.r) 0 = 0
        rw [at_lay g c1 c0, if_neg (by omega), a0]
      have z1 : atP (s.lay 1 1 (1 + 1)).r 1 = 1 := by
        show atP (layP 1 [(1 + 1 - 1, 1)] (1 + 1) s.r) 1 = 1
        rw [at_lay g c1 c1, if_pos rfl]
      exact nx _ _ hw (lay1 rw1 c1 (by omega)) rfl (by omega) (by omega) (fun _ => by unfold LPh; omega) (by omega)
    · rw [k0, e] at hi2
      cases hi2
      show Liv wd lp is m ((s.lay 2 (1 + t) (2 + 1)).come is (s.k + 1))
      rw [k0]
      have z0 : atP (s.lay 2 (1 + t) (2 + 1)).r 0 = 0 := by
        show atP (layP 2 [(2 + 1 - 2, 1 + t)] (2 + 1) s.r) 0 = 0
        rw [at_lay g c2 c0, if_neg (by omega), a0]
      have z1 : atP (s.lay 2 (1 + t) (2 + 1)).r 1 = 1 := by
        show atP (layP 2 [(2 + 1 - 2, 1 + t)] (2 + 1) s.r) 1 = 1
        rw [at_lay g c2 c1, if_neg (by omega), a1]
      have z2 : atP (s.lay 2 (1 + t) (2 + 1)).r 2 = 1 + t := by
        show atP (layP 2 [(2 + 1 - 2, 1 + t)] (2 + 1) s.r) 2 = 1 + t
        rw [at_lay g c2 c2, if_pos rfl]
      exact nx _ _ hw (lay1 rw1 c2 (by omega)) rfl (by omega) (by omega) (fun _ => by unfold LPh; omega) (by omega)
    · rcases hL with ⟨k0, p0, p1, hm0⟩ | ⟨p0, p1, hL⟩
      · rw [k0, e] at hi2
        cases hi2
        show Liv wd lp is m ((s.lay 0 (atP s.r 0 + atP s.r 1) (0 + 1)).come is (s.k + 1))
        rw [k0]
        have z0 : atP (s.lay 0 (atP s.r 0 + atP s.r 1) (0 + 1)).r 0 = atP s.r 0 + atP s.r 1 := by
          show atP (layP 0 [(0 + 1 - 0, _)] (0 + 1) s.r) 0 = _
          rw [at_lay g c0 c0, if_pos rfl]
        have z1 : atP (s.lay 0 (atP s.r 0 + atP s.r 1) (0 + 1)).r 1 = 1 := by
          show atP (layP 0 [(0 + 1 - 0, _)] (0 + 1) s.r) 1 = _
          rw [at_lay g c0 c1, if_neg (by omega), a1]
        have z2 : atP (s.lay 0 (atP s.r 0 + atP s.r 1) (0 + 1)).r 2 = 1 + t := by
          show atP (layP 0 [(0 + 1 - 0, _)] (0 + 1) s.r) 2 = _
          rw [at_lay g c0 c2, if_neg (by omega), a2]
        have hfl : fk.length = 0 ∨ fk.length = 1 := by rcases hfk with rfl | rfl | rfl <;> simp
        exact nx _ _ hw (lay1 rw1 c0 (by omega)) rfl (by omega) (by omega) (fun _ => by unfold LPh; omega) (by omega)
      · rcases hL with ⟨k0, h6, hm0⟩ | ⟨k0, hm0⟩
        · exfalso
          rw [k0, e] at hi2
          rcases hfk with rfl | rfl | rfl
          · simp at hl; omega
          · cases hi2; cases hf
          · cases hi2; cases hf
        · have hi3 : i = .less 0 2 3 := by
            rw [k0, hl, e] at hi2
            rcases hfk with rfl | rfl | rfl
            · have e5 : ((5 + ([] : List Int).length : Nat) : Int) - 1 = 4 := rfl
              rw [e5] at hi2
              cases hi2; rfl
            · have e5 : ((5 + ([5] : List Int).length : Nat) : Int) - 1 = 5 := rfl
              rw [e5] at hi2
              cases hi2; rfl
            · have e5 : ((5 + ([6] : List Int).length : Nat) : Int) - 1 = 5 := rfl
              rw [e5] at hi2
              cases hi2; rfl
          subst hi3
          show Liv wd lp is m (s.come is (if atP s.r 0 < atP s.r 2 then 3 else s.k + 1))
          by_cases hc : atP s.r 0 < atP s.r 2
          · rw [if_pos hc]
            exact nx s _ hw rw0 rfl (by omega) (by omega) (fun _ => by unfold LPh; omega) (by omega)
          · rw [if_neg hc]
            exact nx s _ hw rw0 rfl (by omega) (by omega) (fun hz => by omega) (by omega)
theorem fork_liv {wd : Int} {lp is : List Ins} {m : Nat} {s : St} {g : Int} (hP : PlanAt wd is.length lp is) (hm : is.length ≤ 20) (h : Liv wd lp is (m + 1) s) (hw : s.w = "") (hi : is[s.k.toNat]? = some (.fork g)) : Liv wd lp is m (s.come is (s.k + 1)) ∧ Liv wd lp is m (s.come is g) ∧ 0 ≤ g ∧ g ≤ is.length := by
  have m1 := h.m1
  have rw1 := h.row
  have rw0 := rw1.mono
  have tl := h.tl
  have tl0 : s.t.length + m ≤ 100 := by omega
  have ph := h.ph hw
  have hk := h.pl
  have hk2 : s.k < is.length := by have := (List.getElem?_eq_some_iff.mp hi).1; omega
  have dn : ∀ p : Int, 0 ≤ p → p ≤ is.length → Phase lp is.length m p s.r → Liv wd lp is m (s.come is p) := fun p h1 h2 h3 => come_liv (by omega) rw0 tl0 h.tb hw ⟨h1, h2⟩ h3
  by_cases hb : lp.length ≤ s.k
  · have ok := plan_tail hP hb hi
    have fw : ∀ g, s.k < g → Phase lp is.length m g s.r := fun g hg => phase_fwd ph hb hg
    have h1 : s.k < g := ok.1
    have h2 : g ≤ is.length := ok.2
    exact ⟨dn _ (by omega) (by omega) (fw _ (by omega)), dn _ (by omega) (by omega) (fw _ (by omega)), by omega, h2⟩
  · rcases ph with ⟨h1, _⟩ | ⟨t, fk, ht0, ht1, hfk, e, hL⟩
    · exact (hb h1).elim
    have hk3 : s.k.toNat < lp.length := by omega
    have hi2 : lp[s.k.toNat]? = some (.fork g) := by
      obtain ⟨_, rest, e2, _⟩ := hP
      rw [e2, List.getElem?_append_left hk3] at hi
      exact hi
    have hl : lp.length = 5 + fk.length := by rw [e]; simp [loopI]; omega
    have hln : lp.length ≤ is.length := by
      obtain ⟨_, rest, e2, _⟩ := hP
      rw [e2, List.length_append]; omega
    have dn2 : ∀ p : Int, 0 ≤ p → p ≤ lp.length → (p < lp.length → LPh t lp.length m p s.r) → is.length - lp.length ≤ m → Liv wd lp is m (s.come is p) := fun p h1 h2 h3 h4 => dn p h1 (by omega) (by
      by_cases hp : p < lp.length
      · exact .inr ⟨t, fk, ht0, ht1, hfk, e, h3 hp⟩
      · exact .inl ⟨by omega, by omega⟩)
    rcases hL with ⟨k0, hm0⟩ | ⟨k0, a0, hm0⟩ | ⟨k0, a0, a1, hm0⟩ | ⟨a1, a2, ⟨k0, p0, p1, hm0⟩ | ⟨p0, p1, ⟨k0, h6, hm0⟩ | ⟨k0, hm0⟩⟩⟩
    · rw [k0, e] at hi2; cases hi2
    · rw [k0, e] at hi2; cases hi2
    · rw [k0, e] at hi2; cases hi2
    · rw [k0, e] at hi2; cases hi2
    · have hg : g = 5 ∨ g = 6 := by
        rw [k0, e] at hi2
        rcases hfk with rfl | rfl | rfl
        · simp at hl; omega
        · cases hi2; exact .inl rfl
        · cases hi2; exact .inr rfl
      refine ⟨dn2 _ (by omega) (by omega) (fun _ => by unfold LPh; omega) (by omega), dn2 _ (by omega) (by omega) (fun _ => by unfold LPh; omega) (by omega), by omega, by omega⟩
    · exfalso
      rw [k0, hl, e] at hi2
      rcases hfk with rfl | rfl | rfl
      · have e5 : ((5 + ([] : List Int).length : Nat) : Int) - 1 = 4 := rfl
        rw [e5] at hi2
        cases hi2
      · have e5 : ((5 + ([5] : List Int).length : Nat) : Int) - 1 = 5 := rfl
        rw [e5] at hi2
        cases hi2
      · have e5 : ((5 + ([6] : List Int).length : Nat) : Int) - 1 = 5 := rfl
        rw [e5] at hi2
        cases hi2
theorem liv_zero {wd : Int} {lp is : List Ins} {s : St} (hP : PlanAt wd is.length lp is) (h : Liv wd lp is 0 s) : s.w ≠ "" := by
  intro hw
  obtain ⟨i, hi, _⟩ := h.lv hw
  have hk2 := (List.getElem?_eq_some_iff.mp hi).1
  have hk := h.pl
  rcases h.ph hw with ⟨h1, h2⟩ | ⟨t, fk, _, _, _, _, hL⟩
  · omega
  · unfold LPh at hL
    omega
def st0 (wd : Int) : St := ⟨0, [(wd, 0)], [], ""⟩
theorem liv_begin {wd : Int} {lp is : List Ins} (hP : PlanAt wd is.length lp is) (hm : is.length ≤ 20) (hw : 1 ≤ wd) : Liv wd lp is 100 ((st0 wd).come is 0) := by
  have hp : Pos [(wd, (0 : Int))] := fun q hq => by rw [List.mem_singleton.mp hq]; show 0 < wd; omega
  have es : sumP [(wd, (0 : Int))] = wd := by show wd + 0 = wd; omega
  refine come_liv (Nat.le_refl _) ⟨⟨hp, trivial, es⟩, by show 1 + 200 ≤ 201; omega, fun c h0 h1 => ?_⟩ (Nat.le_refl _) (fun v hv => by cases hv) rfl (by omega) ?_
  · show -_ ≤ (if c < wd then 0 else atP [] _) ∧ (if c < wd then 0 else atP [] _) ≤ _
    rw [if_pos h1]
    have := lim_pos (100 - 100)
    omega
  · rcases hP.1 with rfl | ⟨_, t, fk, h0, h1, hf, rfl⟩
    · exact .inl ⟨by simp, by omega⟩
    · exact .inr ⟨t, fk, h0, h1, hf, rfl, by unfold LPh; omega⟩
end Fk
end
section
set_option maxHeartbeats 4000000
namespace Fk
open PySem PySem.Spec PyProof.Rows L2
/-! one path gone by the class Lone -/
structure LoneAt (μ : Mem) (is : List Ins) (wd : Int) (p c q : Addr) (s : St) : Prop where
  hp : μ p = some (loneO (is.map insD) c q s.w (if s.w = "" then s.k else -1))
  hc : μ c = some (mO wd s.r)
  hq : μ q = some (.lst (s.t.map .int))
def Fr3 (p c q : Addr) (μ μ' : Mem) : Prop := ∀ a, a ≠ p → a ≠ c → a ≠ q → μ' a = μ a
theorem Fr3.refl (p c q : Addr) (μ : Mem) : Fr3 p c q μ μ := fun _ _ _ _ => rfl
theorem Fr3.trans {p c q : Addr} {μ μ1 μ2 : Mem} (a : Fr3 p c q μ μ1) (b : Fr3 p c q μ1 μ2) : Fr3 p c q μ μ2 := fun x h1 h2 h3 => (b x h1 h2 h3).trans (a x h1 h2 h3)
section
variable {μ : Mem} {is : List Ins} {wd : Int} {p c q : Addr} {s : St}
theorem LoneAt.pc (h : LoneAt μ is wd p c q s) : p ≠ c := fun z => by
  have h1 := h.hp
  rw [z, h.hc] at h1
  injection h1 with h1
  unfold loneO mO at h1
  injection h1 with h1 h2
  cases h1
theorem LoneAt.pq (h : LoneAt μ is wd p c q s) : p ≠ q := fun z => by
  have h1 := h.hp
  rw [z, h.hq] at h1
  injection h1 with h1
  cases h1
theorem LoneAt.cq (h : LoneAt μ is wd p c q s) : c ≠ q := fun z => by
  have h1 := h.hc
  rw [z, h.hq] at h1
  injection h1 with h1
  cases h1
theorem LoneAt.setR (h : LoneAt μ is wd p c q s) (r : Rw) : LoneAt (mset μ c (mO wd r)) is wd p c q ⟨s.k, r, s.t, s.w⟩ :=
  ⟨(mset_ne h.pc).trans h.hp, mset_same, (mset_ne h.cq.symm).trans h.hq⟩
theorem LoneAt.setT (h : LoneAt μ is wd p c q s) (t : List Int) : LoneAt (mset μ q (.lst (t.map .int))) is wd p c q ⟨s.k, s.r, t, s.w⟩ :=
  ⟨(mset_ne h.pq).trans h.hp, (mset_ne h.cq).trans h.hc, mset_same⟩
theorem LoneAt.setP (h : LoneAt μ is wd p c q s) (k : Int) (w : Str) : LoneAt (mset μ p (loneO (is.map insD) c q w (if w = "" then k else -1))) is wd p c q ⟨k, s.r, s.t, w⟩ :=
  ⟨mset_same, (mset_ne h.pc.symm).trans h.hc, (mset_ne h.pq.symm).trans h.hq⟩
theorem Fr3.sc {r : MO} : Fr3 p c q μ (mset μ c r) := fun _ _ h _ => mset_ne h
theorem Fr3.sq {r : MO} : Fr3 p c q μ (mset μ q r) := fun _ _ _ h => mset_ne h
theorem Fr3.sp {r : MO} : Fr3 p c q μ (mset μ p r) := fun _ h _ _ => mset_ne h
end
theorem spCome2 {n : Nat} {is : List Ins} {wd pl : Int} {p c q : Addr} {s : St} {μ : Mem} {Φ : AQ} {Ψ : AX} (h : LoneAt μ is wd p c q s) (hw : s.w = "") (h0 : 0 ≤ pl) (h1 : pl ≤ is.length)
    (K : ∀ μ', LoneAt μ' is wd p c q (s.come is pl) → (∀ a, a ≠ p → μ' a = μ a) → Φ .non μ') : xN T (n + 2) 26 [.ref p, .int pl] μ Φ Ψ := by
  refine spComeTo h.hp h0 h1 (K _ ?_ fun a ha => mset_ne ha)
  unfold St.come
  cases hd : (is[pl.toNat]?.map isDone).getD true with
  | true =>
    rw [if_pos rfl, if_pos rfl]
    exact h.setP pl "done"
  | false =>
    rw [if_neg (by decide), if_neg (by decide)]
    have := h.setP pl s.w
    rw [if_pos hw] at this
    exact this
theorem spRest2 {n : Nat} {is : List Ins} {wd : Int} {p c q : Addr} {s : St} {μ : Mem} {Φ : AQ} {Ψ : AX} (h : LoneAt μ is wd p c q s)
    (K : ∀ μ', LoneAt μ' is wd p c q s.fail → Fr3 p c q μ μ' → Φ .non μ') : xN T (n + 1) 27 [.ref p, .str "failed"] μ Φ Ψ :=
  spRest h.hp (K _ (h.setP s.k "failed") Fr3.sp)
theorem s_inW {w a b : Str} {μ : Mem} {Φ : AQ} (h4 : SeqAt.shaped (.str w) = true) (h5 : SeqAt.shaped (.list [.str a, .str b]) = true) (q : Φ (.bl (decide (w = a) || decide (w = b))) μ) : xcmpS .In (.str w) (.tup [.str a, .str b]) μ Φ := by
  refine s_inT (d := .str w) (es := [.str a, .str b]) rfl rfl (Nat.zero_le _) h4 h5 ?_
  have e : ([PyData.str a, PyData.str b].any fun z => PyData.eqv z (.str w)) = (decide (w = a) || decide (w = b)) := by
    have e1 : ∀ x : Str, PyData.eqv (.str x) (.str w) = decide (w = x) := fun x => by
      simp only [PyData.eqv]
      by_cases h : x = w
      · subst h; simp
      · simp [h, Ne.symm h]
    simp [e1]
  rw [e]
  exact q
/-- a row's change, but for what leads -/
def chg (s : St) : Ins → St
  | .put c v => s.lay c v (c + 1)
  | .move c d => s.lay c (atP s.r d) (c + 1)
  | .add c d => s.lay c (atP s.r c + atP s.r d) (c + 1)
  | .fill b e c => s.lay b (atP s.r c) e
  | .tell c => ⟨s.k, s.r, s.t ++ [atP s.r c], s.w⟩
  | _ => s
def chgs : Ins → Bool
  | .put _ _ => true
  | .move _ _ => true
  | .add _ _ => true
  | .fill _ _ _ => true
  | .tell _ => true
  | .from_ _ _ => true
  | .into _ _ => true
  | _ => false
theorem lay_put (s : St) (c v : Int) : s.lay c v (c + 1) = ⟨s.k, layP c [(1, v)] (c + 1) s.r, s.t, s.w⟩ := by
  unfold St.lay
  rw [show c + 1 - c = 1 by omega]
theorem spChange {n m : Nat} {is : List Ins} {wd ln : Int} {p c q : Addr} {s : St} {i : Ins} {w : Str} {ds : List D} {μ : Mem} {Φ : AQ} {Ψ : AX} (h : LoneAt μ is wd p c q s) (R : RowOk wd m s.r) (ht : s.t.length ≤ 100) (ok : i.ok wd ln (-1)) (hi : chgs i = true) (e : insD i = .tup (.str w :: ds))
    (K : ∀ μ', LoneAt μ' is wd p c q (chg s i) → Fr3 p c q μ μ' → Φ .non μ') : xN T (n + 5) 31 [.ref p, .str w, .list ds] μ Φ Ψ := by
  refine k_call (fd := d31) rfl rfl ?_
  show xSs T (xN T (n + 4)) b31 _ [some (.ref p), some (.str w), some (.list ds), none] μ
  unfold b31
  have gs := R.good.sum
  have hl : s.r.length ≤ 10000 := by have := R.len; omega
  have hl2 : s.r.length ≤ 100000 := by omega
  cases i with
  | put x v =>
    cases e
    repeat (first|refine r_attrQ h.hp rfl rfl ?_|refine r_methQ h.hc rfl ?_|array_get_dec)
    refine spMemPut h.hc gs hl ok.1 ?_
    repeat array_get_dec
    refine K _ ?_ Fr3.sc
    show LoneAt _ is wd p c q (s.lay x v (x + 1))
    rw [lay_put]
    exact h.setR _
  | move x y =>
    cases e
    repeat (first|refine r_attrQ h.hp rfl rfl ?_|refine r_methQ h.hc rfl ?_|array_get_dec)
    refine spMemAt h.hc R.good hl2 ok.2 ?_
    repeat array_get_dec
    refine spMemPut h.hc gs hl ok.1 ?_
    repeat array_get_dec
    refine K _ ?_ Fr3.sc
    show LoneAt _ is wd p c q (s.lay x _ (x + 1))
    rw [lay_put]
    exact h.setR _
  | add x y =>
    cases e
    repeat (first|refine r_attrQ h.hp rfl rfl ?_|refine r_methQ h.hc rfl ?_|array_get_dec)
    refine spMemAt h.hc R.good hl2 ok.1 ?_
    repeat (first|refine r_attrQ h.hp rfl rfl ?_|refine r_methQ h.hc rfl ?_|array_get_dec)
    refine spMemAt h.hc R.good hl2 ok.2 ?_
    repeat array_get_dec
    refine spMemPut h.hc gs hl ok.1 ?_
    repeat array_get_dec
    refine K _ ?_ Fr3.sc
    show LoneAt _ is wd p c q (s.lay x _ (x + 1))
    rw [lay_put]
    exact h.setR _
  | fill x y z =>
    cases e
    repeat (first|refine r_attrQ h.hp rfl rfl ?_|refine r_methQ h.hc rfl ?_|array_get_dec)
    refine spMemAt h.hc R.good hl2 ok.2 ?_
    repeat array_get_dec
    refine spMemFill h.hc gs hl ok.1 ?_
    repeat array_get_dec
    exact K _ (h.setR _) Fr3.sc
  | tell x =>
    cases e
    repeat (first|refine r_attrQ h.hp rfl rfl ?_|refine r_methQ h.hc rfl ?_|refine r_bmA h.hq ?_|array_get_dec)
    refine spMemAt h.hc R.good hl2 ok ?_
    repeat array_get_dec
    refine r_app h.hq (by rw [List.length_map]; have e1 : sizeLine = 16777216 := rfl; omega) ?_
    repeat array_get_dec
    refine K _ ?_ Fr3.sq
    rw [show s.t.map D.int ++ [D.int (atP s.r x)] = (s.t ++ [atP s.r x]).map D.int by simp]
    exact h.setT _
  | from_ x y =>
    cases e
    repeat (first|refine r_attrQ h.hp rfl rfl ?_|array_get_dec)
    exact K _ h (Fr3.refl _ _ _ _)
  | into x y =>
    cases e
    repeat (first|refine r_attrQ h.hp rfl rfl ?_|array_get_dec)
    exact K _ h (Fr3.refl _ _ _ _)
  | less _ _ _ => cases hi
  | same _ _ _ => cases hi
  | fork _ => cases hi
  | fail => cases hi
  | done => cases hi
theorem spChangeNo {n : Nat} {p c q : Addr} {w w' : Str} {k : Int} {ds xs : List D} {μ : Mem} {Φ : AQ} {Ψ : AX} (hw : w = "from" ∨ w = "into") (hp : μ p = some (loneO ds c q w' k)) (K : Φ .non μ) : xN T (n + 5) 31 [.ref p, .str w, .list xs] μ Φ Ψ := by
  refine k_call (fd := d31) rfl rfl ?_
  show xSs T (xN T (n + 4)) b31 _ [some (.ref p), some (.str w), some (.list xs), none] μ
  unfold b31
  rcases hw with rfl | rfl <;> (
    repeat (first|refine r_attrQ hp rfl rfl ?_|array_get_dec)
    exact K)
def chQ (T : Tbl) (call : ACall) (o2 : CmpOp) (y : D) (c : CE) (ρ : Env) (r : D) (μ3 : Mem) (Φ : AQ) (Ψ : AX) : Prop := match r with
    | .bl true => xE T call c ρ μ3 (fun z μ4 => xcmpS o2 y z μ4 Φ) Ψ
    | .bl false => Φ (.bl false) μ3
    | _ => False
theorem r_chain2 {T : Tbl} {call : ACall} {ρ : Env} {μ : Mem} {Φ : AQ} {Ψ : AX} {a b c : CE} {o1 o2 : CmpOp} (q : xE T call a ρ μ (fun x μ1 => xE T call b ρ μ1 (fun y μ2 => xcmpS o1 x y μ2 (fun r μ3 => chQ T call o2 y c ρ r μ3 Φ Ψ)) Ψ) Ψ) : xE T call (.chain o1 o2 a b c) ρ μ Φ Ψ := r_chain q
theorem r_chQ {T : Tbl} {call : ACall} {ρ : Env} {μ : Mem} {Φ : AQ} {Ψ : AX} {y : D} {c : CE} {o2 : CmpOp} {P : Prop} [Decidable P] (h1 : P → xE T call c ρ μ (fun z μ4 => xcmpS o2 y z μ4 Φ) Ψ) (h2 : ¬ P → Φ (.bl false) μ) : chQ T call o2 y c ρ (.bl (decide P)) μ Φ Ψ := by
  by_cases h : P
  · rw [decide_eq_true h]; exact h1 h
  · rw [decide_eq_false h]; exact h2 h
/-- the cell that a cell leads to -/
theorem spGoal {n m : Nat} {is : List Ins} {wd x : Int} {p c q : Addr} {s : St} {μ : Mem} {Φ : AQ} {Ψ : AX} (h : LoneAt μ is wd p c q s) (R : RowOk wd m s.r) (hx : 0 ≤ x ∧ x < wd)
    (K : Φ (.int (if 0 ≤ atP s.r x ∧ atP s.r x < wd then atP s.r x else -1)) μ) : xN T (n + 5) 30 [.ref p, .int x] μ Φ Ψ := by
  refine k_call (fd := d30) rfl rfl ?_
  show xSs T (xN T (n + 4)) b30 _ [some (.ref p), some (.int x), none] μ
  unfold b30
  have hl2 : s.r.length ≤ 100000 := by have := R.len; omega
  repeat (first|refine r_attrQ h.hp rfl rfl ?_|refine r_methQ h.hc rfl ?_|array_get_dec)
  refine spMemAt h.hc R.good hl2 hx ?_
  generalize atP s.r x = v at K ⊢
  repeat (first|refine r_chain2 ?_|array_get_dec)
  refine r_chQ (fun h0 => ?_) (fun h0 => ?_)
  · repeat (first|refine r_attrQ h.hp rfl rfl ?_|refine r_methQ h.hc rfl ?_|array_get_dec)
    refine spMemSize h.hc ?_
    repeat array_get_dec
    refine q_d (fun h1 => ?_) (fun h1 => ?_)
    · repeat array_get_dec
      rw [if_pos ⟨h0, h1⟩] at K
      exact K
    · refine r_glo rfl ?_
      rw [if_neg (fun z => h1 z.2)] at K
      exact K
  · refine r_tQ ?_
    refine q_f ?_
    refine r_glo rfl ?_
    rw [if_neg (fun z => h0 z.1)] at K
    exact K
def led (wd : Int) (s : St) : Ins → Option St
  | .from_ c d => if 0 ≤ atP s.r d ∧ atP s.r d < wd then some (s.lay c (atP s.r (atP s.r d)) (c + 1)) else none
  | .into c d => if 0 ≤ atP s.r c ∧ atP s.r c < wd then some (s.lay (atP s.r c) (atP s.r d) (atP s.r c + 1)) else none
  | _ => none
def isLed : Ins → Bool
  | .from_ _ _ => true
  | .into _ _ => true
  | _ => false
theorem spLead {n m : Nat} {is : List Ins} {wd ln : Int} {p c q : Addr} {s : St} {i : Ins} {w : Str} {ds : List D} {μ : Mem} {Φ : AQ} {Ψ : AX} (h : LoneAt μ is wd p c q s) (R : RowOk wd m s.r) (ok : i.ok wd ln (-1)) (hi : isLed i = true) (e : insD i = .tup (.str w :: ds))
    (K : match led wd s i with
      | some s' => ∀ μ', LoneAt μ' is wd p c q s' → Fr3 p c q μ μ' → Φ (.bl true) μ'
      | none => Φ (.bl false) μ) : xN T (n + 6) 32 [.ref p, .str w, .list ds] μ Φ Ψ := by
  refine k_call (fd := d32) rfl rfl ?_
  show xSs T (xN T (n + 5)) b32 _ [some (.ref p), some (.str w), some (.list ds), none] μ
  unfold b32
  have gs := R.good.sum
  have hl : s.r.length ≤ 10000 := by have := R.len; omega
  have hl2 : s.r.length ≤ 100000 := by omega
  cases i with
  | from_ x y =>
    cases e
    repeat (first|refine r_attrQ h.hp rfl rfl ?_|refine r_methQ h.hp rfl ?_|array_get_dec)
    refine spGoal h R ok.2 ?_
    by_cases hg : 0 ≤ atP s.r y ∧ atP s.r y < wd
    · rw [if_pos hg]
      repeat array_get_dec
      refine q_d (fun hz => absurd hz (by omega)) (fun _ => ?_)
      repeat (first|refine r_attrQ h.hp rfl rfl ?_|refine r_methQ h.hc rfl ?_|array_get_dec)
      refine spMemAt h.hc R.good hl2 hg ?_
      repeat array_get_dec
      refine spMemPut h.hc gs hl ok.1 ?_
      repeat array_get_dec
      have e : led wd s (.from_ x y) = some (s.lay x (atP s.r (atP s.r y)) (x + 1)) := if_pos hg
      rw [e, lay_put] at K
      exact K _ (h.setR _) Fr3.sc
    · rw [if_neg hg]
      repeat array_get_dec
      have e : led wd s (.from_ x y) = none := if_neg hg
      rw [e] at K
      exact K
  | into x y =>
    cases e
    repeat (first|refine r_attrQ h.hp rfl rfl ?_|refine r_methQ h.hp rfl ?_|array_get_dec)
    refine spGoal h R ok.1 ?_
    by_cases hg : 0 ≤ atP s.r x ∧ atP s.r x < wd
    · rw [if_pos hg]
      repeat array_get_dec
      refine q_d (fun hz => absurd hz (by omega)) (fun _ => ?_)
      repeat (first|refine r_attrQ h.hp rfl rfl ?_|refine r_methQ h.hc rfl ?_|array_get_dec)
      refine spMemAt h.hc R.good hl2 ok.2 ?_
      repeat array_get_dec
      refine spMemPut h.hc gs hl hg ?_
      repeat array_get_dec
      have e : led wd s (.into x y) = some (s.lay (atP s.r x) (atP s.r y) (atP s.r x + 1)) := if_pos hg
      rw [e, lay_put] at K
      exact K _ (h.setR _) Fr3.sc
    · rw [if_neg hg]
      repeat array_get_dec
      have e : led wd s (.into x y) = none := if_neg hg
      rw [e] at K
      exact K
  | put _ _ => cases hi
  | move _ _ => cases hi
  | add _ _ => cases hi
  | fill _ _ _ => cases hi
  | tell _ => cases hi
  | less _ _ _ => cases hi
  | same _ _ _ => cases hi
  | fork _ => cases hi
  | fail => cases hi
  | done => cases hi
end Fk
end
section
set_option maxHeartbeats 4000000
namespace Fk
open PySem PySem.Spec PyProof.Rows L2
theorem chg_w (s : St) (i : Ins) : (chg s i).w = s.w ∧ (chg s i).k = s.k := by cases i <;> exact ⟨rfl, rfl⟩
theorem at_row {is : List Ins} {k : Int} {i : Ins} (h0 : 0 ≤ k) (hi : is[k.toNat]? = some i) : atI (is.map insD) k = some (insD i) := by
  have hlt := (List.getElem?_eq_some_iff.mp hi).1
  unfold atI ixN
  rw [List.length_map, if_pos h0, if_pos (by omega)]
  simp only [Option.bind_some]
  rw [List.getElem?_map, hi]
  rfl
theorem spStep {n m : Nat} {is : List Ins} {wd : Int} {p c q : Addr} {s : St} {i : Ins} {μ : Mem} {Φ : AQ} {Ψ : AX} (h : LoneAt μ is wd p c q s) (R : RowOk wd m s.r) (ht : s.t.length ≤ 100) (hw : s.w = "") (hk : 0 ≤ s.k) (hi : is[s.k.toNat]? = some i) (ok : i.ok wd is.length (-1)) (hf : isFork i = false) (hd : isDone i = false)
    (K : ∀ μ', LoneAt μ' is wd p c q (stepI is wd s i) → Fr3 p c q μ μ' → Φ .non μ') : xN T (n + 7) 33 [.ref p] μ Φ Ψ := by
  refine k_call (fd := d33) rfl rfl ?_
  show xSs T (xN T (n + 6)) b33 _ [some (.ref p), none, none, none, none, none] μ
  unfold b33
  have hp := h.hp
  rw [if_pos hw] at hp
  have hat := at_row hk hi
  have hl2 : s.r.length ≤ 100000 := by have := R.len; omega
  have hlt : s.k < is.length := by have := (List.getElem?_eq_some_iff.mp hi).1; omega
  cases i with
  | fork _ => cases hf
  | done => cases hd
  | fail =>
    repeat (first|refine r_attrQ hp rfl rfl ?_|refine r_methQ hp rfl ?_|refine u_seq sq_list hat ?_|refine s_inW (by decide +kernel) (by decide +kernel) ?_|array_get_dec)
    refine spRest2 h (fun μ' h' f' => ?_)
    repeat array_get_dec
    exact K _ h' f'
  | less x y g =>
    repeat (first|refine r_attrQ hp rfl rfl ?_|refine r_methQ h.hc rfl ?_|refine u_seq sq_list hat ?_|refine s_inW (by decide +kernel) (by decide +kernel) ?_|array_get_dec)
    refine spMemAt h.hc R.good hl2 ok.1 ?_
    repeat (first|refine r_attrQ hp rfl rfl ?_|refine r_methQ h.hc rfl ?_|array_get_dec)
    refine spMemAt h.hc R.good hl2 ok.2.1 ?_
    have og := ok.2.2
    have K2 : ∀ μ', LoneAt μ' is wd p c q (s.come is (if atP s.r x < atP s.r y then g else s.k + 1)) → Fr3 p c q μ μ' → Φ .non μ' := K
    clear K
    generalize atP s.r x = vx at K2 ⊢
    generalize atP s.r y = vy at K2 ⊢
    repeat (first|refine r_methQ hp rfl ?_|array_get_dec)
    refine q_d (fun hc => ?_) (fun hc => ?_)
    · repeat (first|refine r_attrQ hp rfl rfl ?_|refine r_methQ hp rfl ?_|array_get_dec)
      refine spCome2 h hw (by omega) (by omega) (fun μ' h' f' => ?_)
      repeat array_get_dec
      refine K2 _ ?_ (fun a h1 _ _ => f' a h1)
      skip
      rw [if_pos hc]; exact h'
    · repeat (first|refine r_attrQ hp rfl rfl ?_|refine r_methQ hp rfl ?_|array_get_dec)
      refine q_d (fun he => ?_) (fun he => ?_)
      · repeat (first|refine r_attrQ hp rfl rfl ?_|refine r_methQ hp rfl ?_|array_get_dec)
        refine spCome2 h hw (by omega) (by omega) (fun μ' h' f' => ?_)
        repeat array_get_dec
        refine K2 _ ?_ (fun a h1 _ _ => f' a h1)
        skip
        rw [if_neg hc]; exact h'
      · repeat (first|refine r_attrQ hp rfl rfl ?_|refine r_methQ hp rfl ?_|array_get_dec)
        refine spCome2 h hw (by omega) (by omega) (fun μ' h' f' => ?_)
        repeat array_get_dec
        refine K2 _ ?_ (fun a h1 _ _ => f' a h1)
        skip
        rw [if_neg hc]; exact h'
  | same x y g =>
    repeat (first|refine r_attrQ hp rfl rfl ?_|refine r_methQ h.hc rfl ?_|refine u_seq sq_list hat ?_|refine s_inW (by decide +kernel) (by decide +kernel) ?_|array_get_dec)
    refine spMemAt h.hc R.good hl2 ok.1 ?_
    repeat (first|refine r_attrQ hp rfl rfl ?_|refine r_methQ h.hc rfl ?_|array_get_dec)
    refine spMemAt h.hc R.good hl2 ok.2.1 ?_
    have og := ok.2.2
    have K2 : ∀ μ', LoneAt μ' is wd p c q (s.come is (if atP s.r x = atP s.r y then g else s.k + 1)) → Fr3 p c q μ μ' → Φ .non μ' := K
    clear K
    generalize atP s.r x = vx at K2 ⊢
    generalize atP s.r y = vy at K2 ⊢
    repeat (first|refine r_methQ hp rfl ?_|array_get_dec)
    refine q_d (fun hc => ?_) (fun hc => ?_) <;> (
      repeat (first|refine r_attrQ hp rfl rfl ?_|refine r_methQ hp rfl ?_|array_get_dec)
      refine q_d (fun he => ?_) (fun he => ?_)
      · repeat (first|refine r_attrQ hp rfl rfl ?_|refine r_methQ hp rfl ?_|array_get_dec)
        refine spCome2 h hw (by omega) (by omega) (fun μ' h' f' => ?_)
        repeat array_get_dec
        refine K2 _ ?_ (fun a h1 _ _ => f' a h1)
        skip
        rw [if_pos he]; exact h'
      · repeat (first|refine r_attrQ hp rfl rfl ?_|refine r_methQ hp rfl ?_|array_get_dec)
        refine spCome2 h hw (by omega) (by omega) (fun μ' h' f' => ?_)
        repeat array_get_dec
        refine K2 _ ?_ (fun a h1 _ _ => f' a h1)
        skip
        rw [if_neg he]; exact h')
  | from_ x y =>
    repeat (first|refine r_attrQ hp rfl rfl ?_|refine r_methQ hp rfl ?_|refine u_seq sq_list hat ?_|refine s_inW (by decide +kernel) (by decide +kernel) ?_|array_get_dec)
    refine spLead h R ok rfl rfl ?_
    by_cases hg : 0 ≤ atP s.r y ∧ atP s.r y < wd
    · have e : led wd s (.from_ x y) = some (s.lay x (atP s.r (atP s.r y)) (x + 1)) := if_pos hg
      rw [e]
      intro μ1 h1 f1
      have hp1 := h1.hp
      repeat (first|refine r_methQ hp1 rfl ?_|array_get_dec)
      refine spChangeNo (by first | exact .inl rfl | exact .inr rfl) hp1 ?_
      repeat (first|refine r_methQ hp1 rfl ?_|array_get_dec)
      refine spCome2 h1 hw (by omega) (by omega) (fun μ' h' f' => ?_)
      repeat array_get_dec
      refine K _ ?_ (f1.trans fun a h1 _ _ => f' a h1)
      show LoneAt _ _ _ _ _ _ (if _ then _ else _)
      rw [if_pos hg]; exact h'
    · have e : led wd s (.from_ x y) = none := if_neg hg
      rw [e]
      repeat (first|refine r_methQ hp rfl ?_|array_get_dec)
      refine spRest2 h (fun μ' h' f' => ?_)
      repeat array_get_dec
      refine K _ ?_ f'
      show LoneAt _ _ _ _ _ _ (if _ then _ else _)
      rw [if_neg hg]; exact h'
  | into x y =>
    repeat (first|refine r_attrQ hp rfl rfl ?_|refine r_methQ hp rfl ?_|refine u_seq sq_list hat ?_|refine s_inW (by decide +kernel) (by decide +kernel) ?_|array_get_dec)
    refine spLead h R ok rfl rfl ?_
    by_cases hg : 0 ≤ atP s.r x ∧ atP s.r x < wd
    · have e : led wd s (.into x y) = some (s.lay (atP s.r x) (atP s.r y) (atP s.r x + 1)) := if_pos hg
      rw [e]
      intro μ1 h1 f1
      have hp1 := h1.hp
      repeat (first|refine r_methQ hp1 rfl ?_|array_get_dec)
      refine spChangeNo (by first | exact .inl rfl | exact .inr rfl) hp1 ?_
      repeat (first|refine r_methQ hp1 rfl ?_|array_get_dec)
      refine spCome2 h1 hw (by omega) (by omega) (fun μ' h' f' => ?_)
      repeat array_get_dec
      refine K _ ?_ (f1.trans fun a h1 _ _ => f' a h1)
      show LoneAt _ _ _ _ _ _ (if _ then _ else _)
      rw [if_pos hg]; exact h'
    · have e : led wd s (.into x y) = none := if_neg hg
      rw [e]
      repeat (first|refine r_methQ hp rfl ?_|array_get_dec)
      refine spRest2 h (fun μ' h' f' => ?_)
      repeat array_get_dec
      refine K _ ?_ f'
      show LoneAt _ _ _ _ _ _ (if _ then _ else _)
      rw [if_neg hg]; exact h'
  | put x v =>
    repeat (first|refine r_attrQ hp rfl rfl ?_|refine r_methQ hp rfl ?_|refine u_seq sq_list hat ?_|refine s_inW (by decide +kernel) (by decide +kernel) ?_|array_get_dec)
    refine spChange h R ht ok rfl rfl (fun μ1 h1 f1 => ?_)
    have hp1 := h1.hp
    repeat (first|refine r_methQ hp1 rfl ?_|array_get_dec)
    refine spCome2 h1 hw (by omega) (by omega) (fun μ' h' f' => ?_)
    repeat array_get_dec
    exact K _ h' (f1.trans fun a h1 _ _ => f' a h1)
  | move x y =>
    repeat (first|refine r_attrQ hp rfl rfl ?_|refine r_methQ hp rfl ?_|refine u_seq sq_list hat ?_|refine s_inW (by decide +kernel) (by decide +kernel) ?_|array_get_dec)
    refine spChange h R ht ok rfl rfl (fun μ1 h1 f1 => ?_)
    have hp1 := h1.hp
    repeat (first|refine r_methQ hp1 rfl ?_|array_get_dec)
    refine spCome2 h1 hw (by omega) (by omega) (fun μ' h' f' => ?_)
    repeat array_get_dec
    exact K _ h' (f1.trans fun a h1 _ _ => f' a h1)
  | add x y =>
    repeat (first|refine r_attrQ hp rfl rfl ?_|refine r_methQ hp rfl ?_|refine u_seq sq_list hat ?_|refine s_inW (by decide +kernel) (by decide +kernel) ?_|array_get_dec)
    refine spChange h R ht ok rfl rfl (fun μ1 h1 f1 => ?_)
    have hp1 := h1.hp
    repeat (first|refine r_methQ hp1 rfl ?_|array_get_dec)
    refine spCome2 h1 hw (by omega) (by omega) (fun μ' h' f' => ?_)
    repeat array_get_dec
    exact K _ h' (f1.trans fun a h1 _ _ => f' a h1)
  | fill x y z =>
    repeat (first|refine r_attrQ hp rfl rfl ?_|refine r_methQ hp rfl ?_|refine u_seq sq_list hat ?_|refine s_inW (by decide +kernel) (by decide +kernel) ?_|array_get_dec)
    refine spChange h R ht ok rfl rfl (fun μ1 h1 f1 => ?_)
    have hp1 := h1.hp
    repeat (first|refine r_methQ hp1 rfl ?_|array_get_dec)
    refine spCome2 h1 hw (by omega) (by omega) (fun μ' h' f' => ?_)
    repeat array_get_dec
    exact K _ h' (f1.trans fun a h1 _ _ => f' a h1)
  | tell x =>
    repeat (first|refine r_attrQ hp rfl rfl ?_|refine r_methQ hp rfl ?_|refine u_seq sq_list hat ?_|refine s_inW (by decide +kernel) (by decide +kernel) ?_|array_get_dec)
    refine spChange h R ht ok rfl rfl (fun μ1 h1 f1 => ?_)
    have hp1 := h1.hp
    repeat (first|refine r_methQ hp1 rfl ?_|array_get_dec)
    refine spCome2 h1 hw (by omega) (by omega) (fun μ' h' f' => ?_)
    repeat array_get_dec
    exact K _ h' (f1.trans fun a h1 _ _ => f' a h1)
end Fk
end
section
set_option maxHeartbeats 4000000
namespace Fk
open PySem PySem.Spec PyProof.Rows L2
theorem fresh_ne {μ : Mem} {a b : Addr} {o : MO} (h : μ a = none) (h2 : μ b = some o) : b ≠ a := fun z => by subst z; rw [h] at h2; cases h2
theorem LoneAt.ex {μ μ' : Mem} {is : List Ins} {wd : Int} {p c q : Addr} {s : St} (h : LoneAt μ is wd p c q s) (e : Ex μ μ') : LoneAt μ' is wd p c q s := ⟨e.at h.hp, e.at h.hc, e.at h.hq⟩
theorem Ex.back {μ μ' : Mem} {a : Addr} (e : Ex μ μ') (h : μ' a = none) : μ a = none := by
  cases h2 : μ a with
  | none => rfl
  | some o =>
    have := e.at h2
    rw [h] at this; cases this
theorem spCome3 {n : Nat} {is : List Ins} {wd pl k : Int} {p c q : Addr} {s : St} {μ : Mem} {Φ : AQ} {Ψ : AX} (hp : μ p = some (loneO (is.map insD) c q "" k)) (hc : μ c = some (mO wd s.r)) (hq : μ q = some (.lst (s.t.map .int))) (hw : s.w = "") (h0 : 0 ≤ pl) (h1 : pl ≤ is.length)
    (K : ∀ μ', LoneAt μ' is wd p c q (s.come is pl) → (∀ a, a ≠ p → μ' a = μ a) → Φ .non μ') : xN T (n + 2) 26 [.ref p, .int pl] μ Φ Ψ := by
  have npc : c ≠ p := fun z => by
    rw [z, hp] at hc
    injection hc with hc
    unfold loneO mO at hc
    injection hc with h1 h2
    cases h1
  have nqp : q ≠ p := fun z => by
    rw [z, hp] at hq
    injection hq with hq
    cases hq
  refine spComeTo hp h0 h1 (K _ ?_ fun a ha => mset_ne ha)
  unfold St.come
  cases hd : (is[pl.toNat]?.map isDone).getD true with
  | true =>
    rw [if_pos rfl, if_pos rfl]
    exact ⟨mset_same, (mset_ne npc).trans hc, (mset_ne nqp).trans hq⟩
  | false =>
    rw [if_neg (by decide), if_neg (by decide)]
    refine ⟨mset_same.trans ?_, (mset_ne npc).trans hc, (mset_ne nqp).trans hq⟩
    show _ = some (loneO (is.map insD) c q s.w (if s.w = "" then pl else -1))
    rw [if_pos hw, hw]
/-- Lone(program) -/
theorem spLoneNew {n : Nat} {is : List Ins} {wd : Int} {pr : Addr} {μ : Mem} {Φ : AQ} {Ψ : AX} (hpr : μ pr = some (prO wd (is.map insD))) (hwd : 1 ≤ wd ∧ wd ≤ 1000000000000000000)
    (K : ∀ p c q μ', μ p = none → μ c = none → μ q = none → LoneAt μ' is wd p c q ((st0 wd).come is 0) → Ex μ μ' → Φ (.ref p) μ') : newQ T (xN T (n + 6)) 10 [.ref pr] μ Φ Ψ := by
  refine r_newQ rfl (fun p hp => ?_)
  have npr := fresh_ne hp hpr
  refine k_call (fd := d25) rfl rfl ?_
  show xSs T (xN T (n + 5)) b25 _ [some (.ref p), some (.ref pr)] _
  unfold b25
  have h1 : ∀ o, mset μ p o pr = some (prO wd (is.map insD)) := fun o => (mset_ne npr).trans hpr
  repeat array_get_dec
  refine r_methQ (h1 _) rfl ?_
  repeat array_get_dec
  refine spRowsOf (h1 _) ?_
  repeat array_get_dec
  refine r_saQ mset_same rfl rfl rfl ?_
  rw [mset_mset]
  repeat array_get_dec
  refine r_methQ (h1 _) rfl ?_
  repeat array_get_dec
  refine spSizeOf (h1 _) ?_
  repeat array_get_dec
  refine spMemNew hwd (fun c hc => ?_)
  have ncp : c ≠ p := fun z => by rw [z, mset_same] at hc; cases hc
  have hc0 : μ c = none := (mset_ne ncp).symm.trans hc
  repeat array_get_dec
  refine r_saQ ((mset_ne ncp.symm).trans mset_same) rfl rfl rfl ?_
  repeat array_get_dec
  refine n_t (fun q hq => ?_)
  have nqp : q ≠ p := fun z => by rw [z, mset_same] at hq; cases hq
  have hq1 := (mset_ne nqp).symm.trans hq
  have nqc : q ≠ c := fun z => by rw [z, mset_same] at hq1; cases hq1
  have hq0 : μ q = none := ((mset_ne nqp).symm.trans ((mset_ne nqc).symm.trans hq1))
  repeat array_get_dec
  refine r_saQ ((mset_ne nqp.symm).trans mset_same) rfl rfl rfl ?_
  repeat array_get_dec
  refine r_saQ mset_same rfl rfl rfl ?_
  repeat array_get_dec
  refine r_saQ mset_same rfl rfl rfl ?_
  repeat array_get_dec
  refine r_methQ mset_same rfl ?_
  repeat array_get_dec
  rw [mset_mset, mset_mset]
  refine spCome3 (is := is) (wd := wd) (c := c) (q := q) (s := st0 wd) (pl := 0) (k := -1) mset_same ?_ ?_ rfl (by omega) (by omega) (fun μ' h' f' => ?_)
  · exact (mset_ne ncp).trans ((mset_ne nqc.symm).trans ((mset_ne ncp).trans mset_same))
  · exact (mset_ne nqp).trans mset_same
  · repeat array_get_dec
    refine K p c q μ' hp hc0 hq0 h' (fun a ha => ?_)
    have nap : a ≠ p := fun z => ha (z ▸ hp)
    have nac : a ≠ c := fun z => ha (z ▸ hc0)
    have naq : a ≠ q := fun z => ha (z ▸ hq0)
    rw [f' a nap, mset_ne nap, mset_ne naq, mset_ne nap, mset_ne nac, mset_ne nap]
theorem spParted {n m : Nat} {is : List Ins} {wd g : Int} {pr p c q : Addr} {s : St} {μ : Mem} {Φ : AQ} {Ψ : AX} (hpr : μ pr = some (prO wd (is.map insD))) (hwd : 1 ≤ wd ∧ wd ≤ 1000000000000000000) (h : LoneAt μ is wd p c q s) (R : RowOk wd m s.r) (hw : s.w = "") (hk : 0 ≤ s.k) (hi : is[s.k.toNat]? = some (.fork g)) (hg : 0 ≤ g ∧ g ≤ is.length)
    (K : ∀ p' c' q' μ', μ p' = none → μ c' = none → μ q' = none → LoneAt μ' is wd p' c' q' (s.come is g) → LoneAt μ' is wd p c q (s.come is (s.k + 1)) → ExA p μ μ' → Φ (.ref p') μ') : xN T (n + 8) 29 [.ref p, .ref pr] μ Φ Ψ := by
  refine k_call (fd := d29) rfl rfl ?_
  show xSs T (xN T (n + 7)) b29 _ [some (.ref p), some (.ref pr), none] μ
  unfold b29
  have hat := at_row hk hi
  have hl : s.r.length ≤ 10000 := by have := R.len; omega
  have hlt : s.k < is.length := by have := (List.getElem?_eq_some_iff.mp hi).1; omega
  repeat array_get_dec
  refine spLoneNew hpr hwd (fun p' c0 q0 μ1 hp' hc0 hq0 h0 e1 => ?_)
  have h1 := h.ex e1
  repeat array_get_dec
  refine r_attrQ h1.hp rfl rfl ?_
  repeat array_get_dec
  refine r_methQ h1.hc rfl ?_
  repeat array_get_dec
  refine spMemCopied h1.hc R.good hwd hl (fun c' hc' => ?_)
  have ncp' : c' ≠ p' := (fresh_ne hc' h0.hp).symm
  have e2 : Ex μ1 (mset μ1 c' (mO wd s.r)) := (Ex.refl μ1).new hc'
  have hc'0 := e1.back hc'
  repeat array_get_dec
  refine r_saQ ((mset_ne ncp'.symm).trans h0.hp) rfl rfl rfl ?_
  repeat array_get_dec
  have npp' : p ≠ p' := fresh_ne hp' h.hp
  have nqp' : q ≠ p' := fresh_ne hp' h.hq
  have ncp2 : c ≠ p' := fresh_ne hp' h.hc
  have hpa : ∀ o, mset (mset μ1 c' (mO wd s.r)) p' o p = _ := fun o => (mset_ne npp').trans (e2.at h1.hp)
  have hqa : ∀ o, mset (mset μ1 c' (mO wd s.r)) p' o q = _ := fun o => (mset_ne nqp').trans (e2.at h1.hq)
  refine r_attrQ (hpa _) rfl rfl ?_
  repeat array_get_dec
  refine f_list (sq_ref (hqa _)) ?_
  refine n_t (fun q' hq' => ?_)
  have nqp : q' ≠ p' := fun z => by rw [z, mset_same] at hq'; cases hq'
  have hq1 := (mset_ne nqp).symm.trans hq'
  have nqc : q' ≠ c' := fun z => by rw [z, mset_same] at hq1; cases hq1
  have hq2 := (mset_ne nqc).symm.trans hq1
  have hq'0 := e1.back hq2
  repeat array_get_dec
  refine r_saQ ((mset_ne nqp.symm).trans mset_same) rfl rfl rfl ?_
  repeat array_get_dec
  refine r_saQ mset_same rfl rfl rfl ?_
  rw [mset_mset]
  generalize hμ2 : mset (mset (mset μ1 c' (mO wd s.r)) p' _) q' _ = μ2
  have E : ∀ o, Ex μ (mset μ2 p' o) := fun o a ha => by
    have nap : a ≠ p' := fun z => ha (z ▸ hp')
    have nac : a ≠ c' := fun z => ha (z ▸ hc'0)
    have naq : a ≠ q' := fun z => ha (z ▸ hq'0)
    rw [mset_ne nap, ← hμ2, mset_ne naq, mset_ne nap, mset_ne nac, e1 a ha]
  have hpE : ∀ o, mset μ2 p' o p = _ := fun o => (h.ex (E o)).hp
  have hc2 : ∀ o, mset μ2 p' o c' = some (mO wd s.r) := fun o => by
    rw [mset_ne ncp', ← hμ2, mset_ne nqc.symm, mset_ne ncp', mset_same]
  have hq2 : ∀ o, mset μ2 p' o q' = some (.lst (s.t.map .int)) := fun o => by
    rw [mset_ne nqp, ← hμ2, mset_same]
  repeat array_get_dec
  refine r_methQ mset_same rfl ?_
  repeat array_get_dec
  refine r_attrQ (hpE _) rfl rfl ?_
  repeat array_get_dec
  refine r_attrQ (hpE _) rfl rfl ?_
  rw [if_pos hw]
  repeat array_get_dec
  refine u_seq sq_list hat ?_
  repeat array_get_dec
  refine spCome3 (is := is) (wd := wd) (c := c') (q := q') (s := s) (k := if ((st0 wd).come is 0).w = "" then ((st0 wd).come is 0).k else -1) mset_same (hc2 _) (hq2 _) hw hg.1 hg.2 (fun μ3 hy f3 => ?_)
  have E3 : Ex μ μ3 := fun a ha => (f3 a (fun z => ha (z ▸ hp'))).trans (E _ a ha)
  have hx := h.ex E3
  have hxp := hx.hp
  repeat array_get_dec
  refine r_methQ hxp rfl ?_
  repeat array_get_dec
  refine r_attrQ hxp rfl rfl ?_
  rw [if_pos hw]
  repeat array_get_dec
  refine spCome2 hx hw (by omega) (by omega) (fun μ' h' f' => ?_)
  repeat array_get_dec
  have np : p' ≠ p := npp'.symm
  have nc : c' ≠ p := fresh_ne hc'0 h.hp |>.symm
  have nq : q' ≠ p := fresh_ne hq'0 h.hp |>.symm
  exact K p' c' q' μ' hp' hc'0 hq'0 ⟨(f' _ np).trans hy.hp, (f' _ nc).trans hy.hc, (f' _ nq).trans hy.hq⟩ h' (fun a ha hb => (f' a ha).trans (E3 a hb))
theorem spAtFork {n : Nat} {is : List Ins} {wd : Int} {p c q : Addr} {s : St} {i : Ins} {μ : Mem} {Φ : AQ} {Ψ : AX} (h : LoneAt μ is wd p c q s) (hw : s.w = "") (hk : 0 ≤ s.k) (hi : is[s.k.toNat]? = some i)
    (K : Φ (.bl (isFork i)) μ) : xN T (n + 1) 28 [.ref p] μ Φ Ψ := by
  refine k_call (fd := d28) rfl rfl ?_
  show xSs T (xN T n) b28 _ [some (.ref p)] μ
  unfold b28
  have hp := h.hp
  rw [if_pos hw] at hp
  have hat := at_row hk hi
  repeat (first|refine r_attrQ hp rfl rfl ?_|array_get_dec)
  refine q_nd (fun _ => ?_) (fun hz => absurd hz (by omega))
  cases i <;> (
    repeat (first|refine r_attrQ hp rfl rfl ?_|refine u_seq sq_list hat ?_|array_get_dec)
    exact K)
/-! paths -/
def pathS (bs : List Bool) : Str := ⟨(bs.map fun b => if b then 121 else 101).toArray⟩
theorem pathS_l (bs : List Bool) : (pathS bs).cps.toList = bs.map fun b => if b then 121 else 101 := by simp [pathS]
theorem pathS_len (bs : List Bool) : (pathS bs).length = bs.length := by
  show (pathS bs).cps.size = _
  simp [pathS]
theorem spIsPath {n : Nat} {bs : List Bool} {μ : Mem} {Φ : AQ} {Ψ : AX} (hb : bs.length ≤ 1000) (K : Φ (.bl true) μ) : xN T (n + 1) 34 [.str (pathS bs)] μ Φ Ψ := by
  refine k_call (fd := d34) rfl rfl ?_
  show xSs T (xN T n) b34 _ [some (.str (pathS bs)), none] μ
  unfold b34
  repeat (first|refine i_str ?_|array_get_dec)
  rw [pathS_l, List.map_map]
  refine comp_map (fun _ => .bl true) trivial ?_ (by rw [List.length_map]; omega) ?_
  · intro x hx Φ2 N hΦ
    obtain ⟨b, _, rfl⟩ := List.mem_map.mp hx
    cases b <;> (
      repeat (first|refine s_inW (by decide +kernel) (by decide +kernel) ?_|array_get_dec)
      exact hΦ)
  repeat array_get_dec
  refine f_all rfl (allBl_true _) ?_
  rw [all_true]
  repeat array_get_dec
  exact K
theorem path_at {bs : List Bool} {u : Nat} {b : Bool} (h : bs[u]? = some b) : atI (pathS bs).cps.toList (u : Int) = some (if b then 121 else 101) := by
  have hlt := (List.getElem?_eq_some_iff.mp h).1
  rw [pathS_l]
  unfold atI ixN
  rw [List.length_map, if_pos (by omega), if_pos (by omega)]
  simp only [Option.bind_some]
  rw [List.getElem?_map, Int.toNat_natCast, h]
  rfl
end Fk
end
section
set_option maxHeartbeats 4000000
namespace Fk
open PySem PySem.Spec PyProof.Rows L2
theorem goP_rest {is : List Ins} {wd : Int} {bs : List Bool} {n : Nat} {s : St} {u : Nat} (h : s.w ≠ "") : goP is wd bs n s u = (s, u) := by
  cases n with
  | zero => rfl
  | succ n => unfold goP; rw [if_neg h]
theorem goP_fork {is : List Ins} {wd g : Int} {bs : List Bool} {n : Nat} {s : St} {u : Nat} {b : Bool} (hw : s.w = "") (hi : is[s.k.toNat]? = some (.fork g)) (hu : bs[u]? = some b) : goP is wd bs (n + 1) s u = goP is wd bs n (s.come is (if b then g else s.k + 1)) (u + 1) := by
  conv => lhs; unfold goP
  rw [if_pos hw, hi]
  dsimp only
  rw [hu]
theorem goP_end {is : List Ins} {wd g : Int} {bs : List Bool} {n : Nat} {s : St} {u : Nat} (hw : s.w = "") (hi : is[s.k.toNat]? = some (.fork g)) (hu : bs[u]? = none) : goP is wd bs (n + 1) s u = (s, u) := by
  unfold goP
  rw [if_pos hw, hi]
  dsimp only
  rw [hu]
theorem goP_step {is : List Ins} {wd : Int} {bs : List Bool} {n : Nat} {s : St} {u : Nat} {i : Ins} (hw : s.w = "") (hi : is[s.k.toNat]? = some i) (hf : isFork i = false) : goP is wd bs (n + 1) s u = goP is wd bs n (stepI is wd s i) u := by
  conv => lhs; unfold goP
  rw [if_pos hw, hi]
  cases i <;> first
    | (cases hf; done)
    | rfl
theorem fork_of {i : Ins} (h : isFork i = true) : ∃ g, i = .fork g := by cases i <;> first | (cases h; done) | exact ⟨_, rfl⟩
theorem go_liv {wd : Int} {lp is : List Ins} {bs : List Bool} (hP : PlanAt wd is.length lp is) (hm : is.length ≤ 20) : ∀ {n : Nat} {s : St} {u : Nat}, Liv wd lp is n s → ∃ m, Liv wd lp is m (goP is wd bs n s u).1
  | 0, s, u, h => ⟨0, h⟩
  | n + 1, s, u, h => by
    by_cases hw : s.w = ""
    · obtain ⟨i, hi, hd⟩ := h.lv hw
      cases hf : isFork i with
      | false =>
        rw [goP_step hw hi hf]
        exact go_liv hP hm (step_liv hP hm h hw hi hf)
      | true =>
        obtain ⟨g, rfl⟩ := fork_of hf
        cases hu : bs[u]? with
        | none => rw [goP_end hw hi hu]; exact ⟨_, h⟩
        | some b =>
          rw [goP_fork hw hi hu]
          have k := fork_liv hP hm h hw hi
          cases b
          · exact go_liv hP hm k.1
          · exact go_liv hP hm k.2.1
    · rw [goP_rest hw]; exact ⟨_, h⟩
theorem ok_mono {s m a b : Int} {i : Ins} (h : i.ok s m a) (hb : b ≤ a) : i.ok s m b := by
  cases i <;> first
    | exact h
    | (have h' := h; unfold Ins.ok at h' ⊢; omega)
theorem plan_ok {s : Int} {lp is : List Ins} (h : PlanAt s is.length lp is) (k : Nat) (i : Ins) (hi : is[k]? = some i) : i.ok s is.length (-1) := by
  by_cases hb : lp.length ≤ (k : Int)
  · exact ok_mono (plan_tail (k := (k : Int)) h hb (by simpa using hi)) (by omega)
  · obtain ⟨hlp, rest, e, hr⟩ := h
    have hi2 : lp[k]? = some i := by
      rw [e, List.getElem?_append_left (by omega)] at hi
      exact hi
    have hm := List.mem_of_getElem? hi2
    rcases hlp with rfl | ⟨h3, t, fk, ht0, ht1, hf, rfl⟩
    · cases hm
    · have hlen : ((loopI t fk).length : Int) ≤ is.length := by rw [e, List.length_append]; omega
      have hl : (loopI t fk).length = 5 + fk.length := by simp [loopI]; omega
      rcases List.mem_append.mp hm with h2 | h2
      · simp only [List.mem_cons, List.not_mem_nil, or_false] at h2
        rcases h2 with rfl | rfl | rfl | rfl <;> (unfold Ins.ok; omega)
      · rcases List.mem_append.mp h2 with h2 | h2
        · obtain ⟨g, hg, rfl⟩ := List.mem_map.mp h2
          rcases hf with rfl | rfl | rfl
          · cases hg
          · rw [List.mem_singleton.mp hg]; simp only [List.length_cons, List.length_nil] at hl; unfold Ins.ok; omega
          · rw [List.mem_singleton.mp hg]; simp only [List.length_cons, List.length_nil] at hl; unfold Ins.ok; omega
        · rw [List.mem_singleton.mp h2]; unfold Ins.ok; omega
theorem Ex.exA2 {μ μ1 μ2 : Mem} {p : Addr} (e : Ex μ μ1) (hp : μ p = none) (x : ExA p μ1 μ2) : Ex μ μ2 := fun a ha => by
  have h1 := e a ha
  rw [← h1]
  exact x a (fun z => ha (z ▸ hp)) (by rw [h1]; exact ha)
theorem Ex.fr3 {μ μ1 μ2 : Mem} {p c q : Addr} (e : Ex μ μ1) (hp : μ p = none) (hc : μ c = none) (hq : μ q = none) (x : Fr3 p c q μ1 μ2) : Ex μ μ2 := fun a ha => by
  rw [← e a ha]
  exact x a (fun z => ha (z ▸ hp)) (fun z => ha (z ▸ hc)) (fun z => ha (z ▸ hq))
def wordR (s : St) : Str := if s.w = "" then "fork" else s.w
def resP (is : List Ins) (wd : Int) (bs : List Bool) : St × Nat := goP is wd bs 100 ((st0 wd).come is 0) 0
theorem chr_y : (⟨#[121]⟩ : Str) = "y" := by decide
theorem chr_e : ¬ (⟨#[101]⟩ : Str) = "y" := by decide
theorem spGone {n : Nat} {lp is : List Ins} {wd : Int} {bs : List Bool} {pr : Addr} {μ : Mem} {Φ : AQ} {Ψ : AX} (hpr : μ pr = some (prO wd (is.map insD))) (hP : PlanAt wd is.length lp is) (hl : is.length ≤ 20) (hwd : 1 ≤ wd ∧ wd ≤ 1000000000000000000) (hb : bs.length ≤ 1000)
    (K1 : (resP is wd bs).2 < bs.length → ∀ μ', Ex μ μ' → Ψ 7 [] μ')
    (K2 : ¬ (resP is wd bs).2 < bs.length → ∀ q z μ', μ q = none → μ z = none → q ≠ z → μ' q = some (.lst ((resP is wd bs).1.t.map .int)) → μ' z = some (.lst (rD (resP is wd bs).1.r)) → Ex μ μ' → Φ (.tup [.str (wordR (resP is wd bs).1), .ref q, .ref z]) μ') : xN T (n + 9) 35 [.ref pr, .str (pathS bs)] μ Φ Ψ := by
  refine k_call (fd := d35) rfl rfl ?_
  show xSs T (xN T (n + 8)) b35 _ [some (.ref pr), some (.str (pathS bs)), some (.int 1000), none, none, none, none] μ
  unfold b35
  have hok := plan_ok hP
  have hpl : (pathS bs).length ≤ sizeLine := by rw [pathS_len]; have e1 : sizeLine = 16777216 := rfl; omega
  generalize hRR : resP is wd bs = RR at K1 K2
  refine w_cons ?_
  repeat array_mem_dec
  refine spIsPath hb ?_
  repeat array_mem_dec
  refine w_cons ?_
  repeat array_mem_dec
  refine spLoneNew hpr hwd (fun p c q μ1 hp0 hc0 hq0 h1 hE => ?_)
  repeat array_mem_dec
  refine w_cons ?_
  repeat array_mem_dec
  refine w_seq (fun ρ μ' => ∃ (p c q : Addr) (s : St) (u : Nat) (y d : Option D), ρ = [some (.ref pr), some (.str (pathS bs)), some (.int 1000), some (.ref p), some (.int (u : Nat)), d, y] ∧ μ p = none ∧ μ c = none ∧ μ q = none ∧ LoneAt μ' is wd p c q s ∧ RR = (s, u) ∧ Ex μ μ') ?_ (fun N hN => ?_)
  · rintro ρ μ' ⟨p, c, q, s, u, y, d, rfl, hp0, hc0, hq0, h, rfl, hE⟩
    repeat (first|refine f_lenS hpl ?_|array_get_dec)
    rw [pathS_len]
    refine q_d (fun hu => ?_) (fun hu => ?_)
    · repeat array_get_dec
      exact K1 (by omega) _ hE
    · repeat (first|refine r_attrQ h.hp rfl rfl ?_|array_get_dec)
      refine q_nd (fun hw => ?_) (fun hw => ?_)
      · repeat (first|refine r_attrQ h.hp rfl rfl ?_|refine r_methQ h.hc rfl ?_|array_get_dec)
        refine spMemRuns h.hc (fun z hz => ?_)
        repeat array_get_dec
        have e : wordR s = s.w := if_neg hw
        have k := K2 (by omega) q z (mset μ' z (.lst (rD s.r))) hq0 (hE.back hz) (fresh_ne hz h.hq) ((mset_ne (fresh_ne hz h.hq)).trans h.hq) mset_same (hE.new hz)
        rw [e] at k
        exact k
      · repeat (first|refine r_attrQ h.hp rfl rfl ?_|refine r_methQ h.hc rfl ?_|array_get_dec)
        refine spMemRuns h.hc (fun z hz => ?_)
        repeat array_get_dec
        have e : wordR s = "fork" := if_pos hw
        have k := K2 (by omega) q z (mset μ' z (.lst (rD s.r))) hq0 (hE.back hz) (fresh_ne hz h.hq) ((mset_ne (fresh_ne hz h.hq)).trans h.hq) mset_same (hE.new hz)
        rw [e] at k
        exact k
  · refine w_while (fun m ρ μ' => ∃ (p c q : Addr) (s : St) (u : Nat) (y : Option D) (uu dd : Int), ρ = [some (.ref pr), some (.str (pathS bs)), some (.int 1000), some (.ref p), some (.int uu), some (.int dd), y] ∧ uu = ((u : Nat) : Int) ∧ dd = 100 - (m : Int) ∧ μ p = none ∧ μ c = none ∧ μ q = none ∧ LoneAt μ' is wd p c q s ∧ Liv wd lp is m s ∧ goP is wd bs m s u = RR ∧ Ex μ μ') 100 ?_ ⟨p, c, q, _, 0, none, _, _, rfl, rfl, rfl, hp0, hc0, hq0, h1, liv_begin hP hl hwd.1, hRR, hE⟩
    rintro m ρ μ' K hK ⟨p, c, q, s, u, y, uu, dd, rfl, hu1, hd1, hp0, hc0, hq0, h, L, hR, hE⟩
    have hpr2 := hE.at hpr
    by_cases hw : s.w = ""
    · cases m with
      | zero => exact (liv_zero hP L hw).elim
      | succ m =>
        have hm1 := L.m1
        have htl := L.tl
        obtain ⟨i, hi, hd⟩ := L.lv hw
        cases hf : isFork i with
        | false =>
          repeat (first|refine r_attrQ h.hp rfl rfl ?_|refine f_lenS hpl ?_|array_get_dec)
          rw [decide_eq_true hw]
          repeat (first|refine f_lenS hpl ?_|array_get_dec)
          rw [pathS_len]
          refine q_d (fun hu => ?_) (fun hu => ?_)
          · repeat (first|refine r_attrQ h.hp rfl rfl ?_|refine r_methQ h.hp rfl ?_|refine w_aug_add rfl ?_|array_get_dec)
            refine q_d (fun hz => absurd hz (by omega)) (fun _ => ?_)
            repeat (first|refine r_attrQ h.hp rfl rfl ?_|refine r_methQ h.hp rfl ?_|refine w_aug_add rfl ?_|array_get_dec)
            refine spAtFork h hw L.pl.1 hi ?_
            rw [hf]
            repeat (first|refine r_methQ h.hp rfl ?_|array_get_dec)
            refine spStep h L.row (by omega) hw L.pl.1 hi (hok _ _ hi) hf hd (fun μ2 h2 f2 => ?_)
            repeat array_get_dec
            rw [goP_step hw hi hf] at hR
            exact hK m _ _ (Nat.lt_succ_self m) ⟨p, c, q, _, u, _, _, _, rfl, by omega, by omega, hp0, hc0, hq0, h2, step_liv hP hl L hw hi hf, hR, hE.fr3 hp0 hc0 hq0 f2⟩
          · repeat (first|refine r_methQ h.hp rfl ?_|array_get_dec)
            refine spAtFork h hw L.pl.1 hi ?_
            rw [hf]
            repeat (first|refine r_attrQ h.hp rfl rfl ?_|refine r_methQ h.hp rfl ?_|refine w_aug_add rfl ?_|array_get_dec)
            refine q_d (fun hz => absurd hz (by omega)) (fun _ => ?_)
            repeat (first|refine r_attrQ h.hp rfl rfl ?_|refine r_methQ h.hp rfl ?_|refine w_aug_add rfl ?_|array_get_dec)
            refine spAtFork h hw L.pl.1 hi ?_
            rw [hf]
            repeat (first|refine r_methQ h.hp rfl ?_|array_get_dec)
            refine spStep h L.row (by omega) hw L.pl.1 hi (hok _ _ hi) hf hd (fun μ2 h2 f2 => ?_)
            repeat array_get_dec
            rw [goP_step hw hi hf] at hR
            exact hK m _ _ (Nat.lt_succ_self m) ⟨p, c, q, _, u, _, _, _, rfl, by omega, by omega, hp0, hc0, hq0, h2, step_liv hP hl L hw hi hf, hR, hE.fr3 hp0 hc0 hq0 f2⟩
        | true =>
          obtain ⟨g, rfl⟩ := fork_of hf
          repeat (first|refine r_attrQ h.hp rfl rfl ?_|array_get_dec)
          rw [decide_eq_true hw]
          repeat (first|refine f_lenS hpl ?_|array_get_dec)
          rw [pathS_len]
          refine q_d (fun hu => ?_) (fun hu => ?_)
          · repeat (first|refine r_attrQ h.hp rfl rfl ?_|refine r_methQ h.hp rfl ?_|refine w_aug_add rfl ?_|array_get_dec)
            refine q_d (fun hz => absurd hz (by omega)) (fun _ => ?_)
            repeat (first|refine r_methQ h.hp rfl ?_|refine w_aug_add rfl ?_|array_get_dec)
            refine spAtFork h hw L.pl.1 hi ?_
            repeat (first|refine r_methQ h.hp rfl ?_|array_get_dec)
            have kk := fork_liv hP hl L hw hi
            refine spParted hpr2 hwd h L.row hw L.pl.1 hi kk.2.2 (fun p' c' q' μ2 hp' hc' hq' hy he x2 => ?_)
            have hub : u < bs.length := by omega
            have hu2 : bs[u]? = some bs[u] := List.getElem?_eq_getElem hub
            rw [goP_fork hw hi hu2] at hR
            have hat := path_at hu2
            rw [← hu1] at hat
            repeat (first|refine u_str hpl hat ?_|array_get_dec)
            cases hbu : bs[u] with
            | true =>
              rw [hbu] at hR
              have ez : (⟨#[if true = true then 121 else 101]⟩ : Str) = ⟨#[121]⟩ := rfl
              rw [ez, decide_eq_true chr_y]
              repeat (first|refine w_aug_add rfl ?_|array_get_dec)
              exact hK m _ _ (Nat.lt_succ_self m) ⟨p', c', q', _, u + 1, _, _, _, rfl, by omega, by omega, hE.back hp', hE.back hc', hE.back hq', hy, kk.2.1, hR, hE.exA2 hp0 x2⟩
            | false =>
              rw [hbu] at hR
              have ez : (⟨#[if false = true then 121 else 101]⟩ : Str) = ⟨#[101]⟩ := rfl
              rw [ez, decide_eq_false chr_e]
              repeat (first|refine w_aug_add rfl ?_|array_get_dec)
              exact hK m _ _ (Nat.lt_succ_self m) ⟨p, c, q, _, u + 1, _, _, _, rfl, by omega, by omega, hp0, hc0, hq0, he, kk.1, hR, hE.exA2 hp0 x2⟩
          · repeat (first|refine r_methQ h.hp rfl ?_|array_get_dec)
            refine spAtFork h hw L.pl.1 hi ?_
            repeat array_get_dec
            have hu2 : bs[u]? = none := List.getElem?_eq_none (by omega)
            rw [goP_end hw hi hu2] at hR
            subst hu1
            exact hN _ _ ⟨p, c, q, s, u, y, _, rfl, hp0, hc0, hq0, h, hR.symm, hE⟩
    · repeat (first|refine r_attrQ h.hp rfl rfl ?_|array_get_dec)
      rw [decide_eq_false hw]
      repeat array_get_dec
      rw [goP_rest hw] at hR
      subst hu1
      exact hN _ _ ⟨p, c, q, s, u, y, _, rfl, hp0, hc0, hq0, h, hR.symm, hE⟩
end Fk
end
section
set_option maxHeartbeats 4000000
namespace Fk
open PySem PySem.Spec PyProof.Rows L2
/-! the law's own going, on dicts -/
theorem r_stD {v y : D} {p : Addr} {ks : List Key} {ds : List D} {kv : List (Key × D)} {k : Key} {ρ : Env} {μ : Mem} {N : Env → Mem → Prop} (h : μ p = some (.dK ks ds)) (hk : keyD y = some k) (hl : Nat.ble (ks.length + 1) 1000 = true) (he : kPut (ks.zip ds) k v = kv) (q : N ρ (mset μ p (.dK (kv.map (·.1)) (kv.map (·.2))))) : stQ v (.ref p) y ρ μ N := by
  unfold stQ
  dsimp only
  rw [h]
  dsimp only
  rw [hk]
  dsimp only
  subst he
  exact ⟨Nat.le_of_ble_eq_true hl, q⟩
def oKs : List Key := [.inr "path", .inr "row", .inr "told", .inr "rest", .inr "place"]
def oneO (pa : Str) (q : Addr) (s : St) : MO := .dK oKs [.str pa, .list (rD s.r), .ref q, .str s.w, .int s.k]
structure OneAt (μ : Mem) (a q : Addr) (pa : Str) (s : St) : Prop where
  ha : μ a = some (oneO pa q s)
  hq : μ q = some (.lst (s.t.map .int))
theorem OneAt.aq {μ : Mem} {a q : Addr} {pa : Str} {s : St} (h : OneAt μ a q pa s) : a ≠ q := fun z => by
  have h1 := h.ha
  rw [z, h.hq] at h1
  injection h1 with h1
  cases h1
def Fr2 (a q : Addr) (μ μ' : Mem) : Prop := ∀ b, b ≠ a → b ≠ q → μ' b = μ b
theorem Fr2.trans {a q : Addr} {μ μ1 μ2 : Mem} (x : Fr2 a q μ μ1) (y : Fr2 a q μ1 μ2) : Fr2 a q μ μ2 := fun b h1 h2 => (y b h1 h2).trans (x b h1 h2)
section
variable {μ : Mem} {a q : Addr} {pa : Str} {s : St} {v : D}
theorem OneAt.dic (h : OneAt μ a q pa s) : dicOf μ (.ref a) = some (oKs.zip [.str pa, .list (rD s.r), .ref q, .str s.w, .int s.k]) := dk_ref h.ha
theorem look_path {a b c d e : D} : kLook (oKs.zip [a, b, c, d, e]) (.inr "path") = some a := rfl
theorem look_row {a b c d e : D} : kLook (oKs.zip [a, b, c, d, e]) (.inr "row") = some b := rfl
theorem look_told {a b c d e : D} : kLook (oKs.zip [a, b, c, d, e]) (.inr "told") = some c := rfl
theorem look_rest {a b c d e : D} : kLook (oKs.zip [a, b, c, d, e]) (.inr "rest") = some d := rfl
theorem look_place {a b c d e : D} : kLook (oKs.zip [a, b, c, d, e]) (.inr "place") = some e := rfl
theorem put_path {a b c d e : D} : kPut (oKs.zip [a, b, c, d, e]) (.inr "path") v = oKs.zip [v, b, c, d, e] := rfl
theorem put_row {a b c d e : D} : kPut (oKs.zip [a, b, c, d, e]) (.inr "row") v = oKs.zip [a, v, c, d, e] := rfl
theorem put_rest {a b c d e : D} : kPut (oKs.zip [a, b, c, d, e]) (.inr "rest") v = oKs.zip [a, b, c, v, e] := rfl
theorem put_place {a b c d e : D} : kPut (oKs.zip [a, b, c, d, e]) (.inr "place") v = oKs.zip [a, b, c, d, v] := rfl
theorem put_new {a b c d : D} : kPut ([Sum.inr (Str.ofString "path"), .inr "row", .inr "told", .inr "rest"].zip [a, b, c, d]) (.inr "place") v = oKs.zip [a, b, c, d, v] := rfl
theorem OneAt.setS (h : OneAt μ a q pa s) (pa' : Str) (s' : St) (ht : s'.t = s.t) : OneAt (mset μ a (oneO pa' q s')) a q pa' s' := ⟨mset_same, (mset_ne h.aq.symm).trans (ht ▸ h.hq)⟩
theorem OneAt.setT (h : OneAt μ a q pa s) (t : List Int) : OneAt (mset μ q (.lst (t.map .int))) a q pa ⟨s.k, s.r, t, s.w⟩ := ⟨(mset_ne h.aq).trans h.ha, mset_same⟩
theorem OneAt.ex {μ' : Mem} (h : OneAt μ a q pa s) (e : Ex μ μ') : OneAt μ' a q pa s := ⟨e.at h.ha, e.at h.hq⟩
end
/-- a place come to -/
theorem spComesG {n : Nat} {is : List Ins} {pl : Int} {a q : Addr} {pa : Str} {s : St} {ks : List Key} {ds : List D} {μ : Mem} {Φ : AQ} {Ψ : AX} (ha : μ a = some (.dK ks ds)) (hks : Nat.ble (ks.length + 1) 1000 = true) (hput : kPut (ks.zip ds) (.inr "place") (.int pl) = oKs.zip [.str pa, .list (rD s.r), .ref q, .str s.w, .int pl]) (hq : μ q = some (.lst (s.t.map .int))) (h0 : 0 ≤ pl) (h1 : pl ≤ is.length)
    (K : ∀ μ', OneAt μ' a q pa (s.come is pl) → (∀ b, b ≠ a → μ' b = μ b) → Φ .non μ') : xN T (n + 1) 56 [.list (is.map insD), .ref a, .int pl] μ Φ Ψ := by
  refine k_call (fd := d56) rfl rfl ?_
  show xSs T (xN T n) b56 _ [some (.list (is.map insD)), some (.ref a), some (.int pl)] μ
  unfold b56
  have naq : a ≠ q := fun z => by
    rw [z, hq] at ha
    injection ha with ha
    cases ha
  repeat array_get_dec
  refine r_stD ha rfl hks hput ?_
  have h2 : OneAt (mset μ a (oneO pa q ⟨pl, s.r, s.t, s.w⟩)) a q pa ⟨pl, s.r, s.t, s.w⟩ := ⟨mset_same, (mset_ne naq.symm).trans hq⟩
  have f2 : ∀ b, b ≠ a → mset μ a (oneO pa q ⟨pl, s.r, s.t, s.w⟩) b = μ b := fun b hb => mset_ne hb
  show xSs T (xN T n) _ _ _ (mset μ a (oneO pa q ⟨pl, s.r, s.t, s.w⟩))
  generalize mset μ a (oneO pa q ⟨pl, s.r, s.t, s.w⟩) = μ2 at h2 f2 ⊢
  repeat array_get_dec
  rw [List.length_map]
  refine q_d (fun he => ?_) (fun he => ?_)
  · repeat array_get_dec
    refine r_stD h2.ha rfl rfl put_rest ?_
    repeat array_get_dec
    refine K _ ?_ (fun b hb => (mset_ne hb).trans (f2 b hb))
    unfold St.come
    rw [List.getElem?_eq_none (by omega)]
    exact h2.setS pa ⟨pl, s.r, s.t, "done"⟩ rfl
  · have hlt : pl.toNat < is.length := by omega
    have hi : is[pl.toNat]? = some is[pl.toNat] := List.getElem?_eq_getElem hlt
    have hat := at_row h0 hi
    have K2 : ∀ μ', OneAt μ' a q pa (if isDone is[pl.toNat] = true then ⟨pl, s.r, s.t, "done"⟩ else ⟨pl, s.r, s.t, s.w⟩) → (∀ b, b ≠ a → μ' b = μ b) → Φ .non μ' := by
      unfold St.come at K
      rw [hi] at K
      exact K
    clear K
    generalize is[pl.toNat] = i at hat K2
    have go := @s_done i
    obtain ⟨w2, t2, e2⟩ := insD_head i
    rw [e2] at go hat
    repeat (first|refine u_seq sq_list hat ?_|array_get_dec)
    refine go ?_
    cases hd : isDone i with
    | true =>
      rw [hd] at K2
      repeat array_get_dec
      refine r_stD h2.ha rfl rfl put_rest ?_
      repeat array_get_dec
      exact K2 _ (h2.setS pa ⟨pl, s.r, s.t, "done"⟩ rfl) (fun b hb => (mset_ne hb).trans (f2 b hb))
    | false =>
      rw [hd] at K2
      repeat array_get_dec
      exact K2 _ h2 f2
theorem spComes {n : Nat} {is : List Ins} {pl : Int} {a q : Addr} {pa : Str} {s : St} {μ : Mem} {Φ : AQ} {Ψ : AX} (h : OneAt μ a q pa s) (h0 : 0 ≤ pl) (h1 : pl ≤ is.length)
    (K : ∀ μ', OneAt μ' a q pa (s.come is pl) → (∀ b, b ≠ a → μ' b = μ b) → Φ .non μ') : xN T (n + 1) 56 [.list (is.map insD), .ref a, .int pl] μ Φ Ψ := spComesG h.ha rfl put_place h.hq h0 h1 K
/-- begun -/
theorem spBegun {n : Nat} {is : List Ins} {wd : Int} {μ : Mem} {Φ : AQ} {Ψ : AX}
    (K : ∀ a q μ', μ a = none → μ q = none → OneAt μ' a q "" ((st0 wd).come is 0) → Ex μ μ' → Φ (.ref a) μ') : xN T (n + 2) 57 [.int wd, .list (is.map insD)] μ Φ Ψ := by
  refine k_call (fd := d57) rfl rfl ?_
  show xSs T (xN T (n + 1)) b57 _ [some (.int wd), some (.list (is.map insD)), none] μ
  unfold b57
  repeat array_get_dec
  refine n_t (fun q hq => ?_)
  repeat array_get_dec
  refine n_kt (fun a ha => ?_)
  have naq : q ≠ a := fresh_ne ha mset_same
  have ha0 : μ a = none := (mset_ne naq.symm).symm.trans ha
  repeat array_get_dec
  refine spComesG (s := st0 wd) (pa := "") (q := q) mset_same rfl put_new ((mset_ne naq).trans mset_same) (by omega) (by omega) (fun μ' h' f' => ?_)
  repeat array_get_dec
  refine K a q μ' ha0 hq h' (fun b hb => ?_)
  have n1 : b ≠ a := fun z => hb (z ▸ ha0)
  have n2 : b ≠ q := fun z => hb (z ▸ hq)
  rw [f' b n1, mset_ne n1, mset_ne n2]
/-! what a row does -/
def ledQ (wd : Int) (r : Rw) : Ins → Option (Int × Int)
  | .from_ c d => if 0 ≤ atP r d ∧ atP r d < wd then some (c, atP r (atP r d)) else none
  | .into c d => if 0 ≤ atP r c ∧ atP r c < wd then some (atP r c, atP r d) else none
  | _ => none
def ptQ (wd : Int) (r : Rw) : Ins → Option (Int × Int)
  | .put c v => some (c, v)
  | .move c d => some (c, atP r d)
  | .add c d => some (c, atP r c + atP r d)
  | .from_ c d => ledQ wd r (.from_ c d)
  | .into c d => ledQ wd r (.into c d)
  | _ => none
def putQ : Option (Int × Int) → D
  | some (c, v) => .tup [.int c, .int v]
  | none => .non
theorem spLed {n m : Nat} {wd ln : Int} {r : Rw} {i : Ins} {w : Str} {ds : List D} {μ : Mem} {Φ : AQ} {Ψ : AX} (R : RowOk wd m r) (ok : i.ok wd ln (-1)) (hi : isLed i = true) (e : insD i = .tup (.str w :: ds))
    (K : Φ (putQ (ledQ wd r i)) μ) : xN T (n + 3) 59 [.list (rD r), .str w, .tup ds] μ Φ Ψ := by
  refine k_call (fd := d59) rfl rfl ?_
  show xSs T (xN T (n + 2)) b59 _ [some (.list (rD r)), some (.str w), some (.tup ds), none, none, none] μ
  unfold b59
  have g := R.good
  have hl : r.length ≤ 100000 := by have := R.len; omega
  cases i with
  | from_ x y =>
    cases e
    have K2 : Φ (putQ (if 0 ≤ atP r y ∧ atP r y < wd then some (x, atP r (atP r y)) else none)) μ := K
    clear K
    repeat array_get_dec
    refine spLawAt g hl ok.2 ?_
    generalize atP r y = v at K2 ⊢
    repeat (first|refine r_chain2 ?_|array_get_dec)
    refine r_chQ (fun h0 => ?_) (fun h0 => ?_)
    · repeat array_get_dec
      refine comp_map fstD trivial ?_ (by unfold rD; rw [List.length_map]; omega) ?_
      · intro x hx Φ2 N hΦ
        obtain ⟨q, _, rfl⟩ := mem_rD hx
        repeat array_get_dec
        exact hΦ
      rw [fst_rD]
      repeat array_get_dec
      refine f_sum rfl (allInt_map _) ?_
      rw [sum_fst, g.sum]
      repeat array_get_dec
      refine q_nd (fun h1 => ?_) (fun h1 => ?_)
      · repeat array_get_dec
        rw [if_neg (fun z => h1 z.2)] at K2
        exact K2
      · repeat array_get_dec
        refine spLawAt g hl ⟨h0, h1⟩ ?_
        repeat array_get_dec
        rw [if_pos ⟨h0, h1⟩] at K2
        exact K2
    · repeat array_get_dec
      rw [if_neg (fun z => h0 z.1)] at K2
      exact K2
  | into x y =>
    cases e
    have K2 : Φ (putQ (if 0 ≤ atP r x ∧ atP r x < wd then some (atP r x, atP r y) else none)) μ := K
    clear K
    repeat array_get_dec
    refine spLawAt g hl ok.1 ?_
    generalize atP r x = v at K2 ⊢
    repeat (first|refine r_chain2 ?_|array_get_dec)
    refine r_chQ (fun h0 => ?_) (fun h0 => ?_)
    · repeat array_get_dec
      refine comp_map fstD trivial ?_ (by unfold rD; rw [List.length_map]; omega) ?_
      · intro x hx Φ2 N hΦ
        obtain ⟨q, _, rfl⟩ := mem_rD hx
        repeat array_get_dec
        exact hΦ
      rw [fst_rD]
      repeat array_get_dec
      refine f_sum rfl (allInt_map _) ?_
      rw [sum_fst, g.sum]
      repeat array_get_dec
      refine q_nd (fun h1 => ?_) (fun h1 => ?_)
      · repeat array_get_dec
        rw [if_neg (fun z => h1 z.2)] at K2
        exact K2
      · repeat array_get_dec
        refine spLawAt g hl ok.2 ?_
        repeat array_get_dec
        rw [if_pos ⟨h0, h1⟩] at K2
        exact K2
    · repeat array_get_dec
      rw [if_neg (fun z => h0 z.1)] at K2
      exact K2
  | put _ _ => cases hi
  | move _ _ => cases hi
  | add _ _ => cases hi
  | fill _ _ _ => cases hi
  | tell _ => cases hi
  | less _ _ _ => cases hi
  | same _ _ _ => cases hi
  | fork _ => cases hi
  | fail => cases hi
  | done => cases hi
def isPut : Ins → Bool
  | .put _ _ => true
  | .move _ _ => true
  | .add _ _ => true
  | .from_ _ _ => true
  | .into _ _ => true
  | _ => false
theorem spPutThere {n m : Nat} {wd ln : Int} {r : Rw} {i : Ins} {w : Str} {ds : List D} {μ : Mem} {Φ : AQ} {Ψ : AX} (R : RowOk wd m r) (ok : i.ok wd ln (-1)) (hi : isPut i = true) (e : insD i = .tup (.str w :: ds))
    (K : Φ (putQ (ptQ wd r i)) μ) : xN T (n + 4) 60 [.list (rD r), .str w, .tup ds] μ Φ Ψ := by
  refine k_call (fd := d60) rfl rfl ?_
  show xSs T (xN T (n + 3)) b60 _ [some (.list (rD r)), some (.str w), some (.tup ds)] μ
  unfold b60
  have g := R.good
  have hl : r.length ≤ 100000 := by have := R.len; omega
  cases i with
  | put x v =>
    cases e
    repeat array_get_dec
    exact K
  | move x y =>
    cases e
    repeat array_get_dec
    refine spLawAt g hl ok.2 ?_
    repeat array_get_dec
    exact K
  | add x y =>
    cases e
    repeat array_get_dec
    refine spLawAt g hl ok.1 ?_
    repeat array_get_dec
    refine spLawAt g hl ok.2 ?_
    repeat array_get_dec
    exact K
  | from_ x y =>
    cases e
    repeat array_get_dec
    exact spLed R ok rfl rfl K
  | into x y =>
    cases e
    repeat array_get_dec
    exact spLed R ok rfl rfl K
  | fill _ _ _ => cases hi
  | tell _ => cases hi
  | less _ _ _ => cases hi
  | same _ _ _ => cases hi
  | fork _ => cases hi
  | fail => cases hi
  | done => cases hi
end Fk
end
section
set_option maxHeartbeats 4000000
namespace Fk
open PySem PySem.Spec PyProof.Rows L2
def doesS (wd : Int) (s : St) : Ins → Option St
  | .tell c => some ⟨s.k, s.r, s.t ++ [atP s.r c], s.w⟩
  | .fill b e c => some (s.lay b (atP s.r c) e)
  | i => (ptQ wd s.r i).map fun cv => s.lay cv.1 cv.2 (cv.1 + 1)
theorem strapp_len (a b : Str) : (a ++ b).length = a.length + b.length := by
  show (a.cps ++ b.cps).size = a.cps.size + b.cps.size
  simp
theorem spDoes {n m : Nat} {wd ln : Int} {a q : Addr} {pa : Str} {s : St} {i : Ins} {w : Str} {ds : List D} {μ : Mem} {Φ : AQ} {Ψ : AX} (h : OneAt μ a q pa s) (R : RowOk wd m s.r) (ht : s.t.length ≤ 100) (ok : i.ok wd ln (-1)) (hi : chgs i = true) (e : insD i = .tup (.str w :: ds))
    (K : match doesS wd s i with
      | some s' => ∀ μ', OneAt μ' a q pa s' → Fr2 a q μ μ' → Φ (.bl true) μ'
      | none => Φ (.bl false) μ) : xN T (n + 5) 61 [.ref a, .str w, .tup ds] μ Φ Ψ := by
  refine k_call (fd := d61) rfl rfl ?_
  show xSs T (xN T (n + 4)) b61 _ [some (.ref a), some (.str w), some (.tup ds), none, none, none] μ
  unfold b61
  have g := R.good
  have gs := g.sum
  have hl : s.r.length ≤ 10000 := by have := R.len; omega
  have hl2 : s.r.length ≤ 100000 := by omega
  cases i with
  | tell x =>
    cases e
    repeat (first|refine u_dicS h.dic look_row ?_|refine u_dicS h.dic look_told ?_|refine r_bmA h.hq ?_|array_get_dec)
    refine spLawAt g hl2 ok ?_
    repeat array_get_dec
    refine r_app h.hq (by rw [List.length_map]; have e1 : sizeLine = 16777216 := rfl; omega) ?_
    repeat array_get_dec
    refine K _ ?_ (fun b _ hb => mset_ne hb)
    rw [show s.t.map D.int ++ [D.int (atP s.r x)] = (s.t ++ [atP s.r x]).map D.int by simp]
    exact h.setT _
  | fill x y z =>
    cases e
    have K2 : ∀ μ', OneAt μ' a q pa (s.lay x (atP s.r z) y) → Fr2 a q μ μ' → Φ (.bl true) μ' := K
    clear K
    have okb := ok.1
    repeat (first|refine u_dicS h.dic look_row ?_|array_get_dec)
    refine q_d (fun hc => ?_) (fun hc => ?_)
    · repeat array_get_dec
      refine spLawAt g hl2 ok.2 ?_
      repeat array_get_dec
      refine spLawWith (b := x) (e := y) (part := [(y - x, atP s.r z)]) g hl (by simp) (fun p hp => by rw [List.mem_singleton.mp hp]; show 0 < y - x; omega) (by show y - x + 0 = _; omega) ?_
      repeat array_get_dec
      refine r_stD h.ha rfl rfl put_row ?_
      repeat array_get_dec
      exact K2 _ (h.setS pa (s.lay x (atP s.r z) y) rfl) (fun b hb _ => mset_ne hb)
    · repeat array_get_dec
      refine spLawWith (b := x) (e := y) (part := []) g hl (by simp) (fun p hp => by cases hp) (by show (0 : Int) = _; omega) ?_
      repeat array_get_dec
      refine r_stD h.ha rfl rfl put_row ?_
      repeat array_get_dec
      have e2 : s.lay x (atP s.r z) y = ⟨s.k, layP x [] y s.r, s.t, s.w⟩ := by unfold St.lay; rw [layP_none (by omega)]
      rw [e2] at K2
      exact K2 _ (h.setS pa ⟨s.k, layP x [] y s.r, s.t, s.w⟩ rfl) (fun b hb _ => mset_ne hb)
  | put x v =>
    cases e
    have K2 : match (ptQ wd s.r (.put x v)).map fun cv => s.lay cv.1 cv.2 (cv.1 + 1) with
      | some s' => ∀ μ', OneAt μ' a q pa s' → Fr2 a q μ μ' → Φ (.bl true) μ'
      | none => Φ (.bl false) μ := K
    clear K
    repeat (first|refine u_dicS h.dic look_row ?_|array_get_dec)
    refine spPutThere R ok rfl rfl ?_
    generalize ptQ wd s.r (.put x v) = o at K2 ⊢
    cases o with
    | none =>
      unfold putQ
      repeat array_get_dec
      exact K2
    | some cv =>
      obtain ⟨c, v⟩ := cv
      unfold putQ
      repeat array_get_dec
      refine spLawWith (b := c) (e := c + 1) (part := [(1, v)]) g hl (by simp) (fun p hp => by rw [List.mem_singleton.mp hp]; show (0 : Int) < 1; omega) (by show 1 + 0 = _; omega) ?_
      repeat array_get_dec
      refine r_stD h.ha rfl rfl put_row ?_
      repeat array_get_dec
      refine K2 _ ?_ (fun b hb _ => mset_ne hb)
      show OneAt _ a q pa (s.lay c v (c + 1))
      rw [lay_put]
      exact h.setS pa ⟨s.k, layP c [(1, v)] (c + 1) s.r, s.t, s.w⟩ rfl
  | move x y =>
    cases e
    have K2 : match (ptQ wd s.r (.move x y)).map fun cv => s.lay cv.1 cv.2 (cv.1 + 1) with
      | some s' => ∀ μ', OneAt μ' a q pa s' → Fr2 a q μ μ' → Φ (.bl true) μ'
      | none => Φ (.bl false) μ := K
    clear K
    repeat (first|refine u_dicS h.dic look_row ?_|array_get_dec)
    refine spPutThere R ok rfl rfl ?_
    generalize ptQ wd s.r (.move x y) = o at K2 ⊢
    cases o with
    | none =>
      unfold putQ
      repeat array_get_dec
      exact K2
    | some cv =>
      obtain ⟨c, v⟩ := cv
      unfold putQ
      repeat array_get_dec
      refine spLawWith (b := c) (e := c + 1) (part := [(1, v)]) g hl (by simp) (fun p hp => by rw [List.mem_singleton.mp hp]; show (0 : Int) < 1; omega) (by show 1 + 0 = _; omega) ?_
      repeat array_get_dec
      refine r_stD h.ha rfl rfl put_row ?_
      repeat array_get_dec
      refine K2 _ ?_ (fun b hb _ => mset_ne hb)
      show OneAt _ a q pa (s.lay c v (c + 1))
      rw [lay_put]
      exact h.setS pa ⟨s.k, layP c [(1, v)] (c + 1) s.r, s.t, s.w⟩ rfl
  | add x y =>
    cases e
    have K2 : match (ptQ wd s.r (.add x y)).map fun cv => s.lay cv.1 cv.2 (cv.1 + 1) with
      | some s' => ∀ μ', OneAt μ' a q pa s' → Fr2 a q μ μ' → Φ (.bl true) μ'
      | none => Φ (.bl false) μ := K
    clear K
    repeat (first|refine u_dicS h.dic look_row ?_|array_get_dec)
    refine spPutThere R ok rfl rfl ?_
    generalize ptQ wd s.r (.add x y) = o at K2 ⊢
    cases o with
    | none =>
      unfold putQ
      repeat array_get_dec
      exact K2
    | some cv =>
      obtain ⟨c, v⟩ := cv
      unfold putQ
      repeat array_get_dec
      refine spLawWith (b := c) (e := c + 1) (part := [(1, v)]) g hl (by simp) (fun p hp => by rw [List.mem_singleton.mp hp]; show (0 : Int) < 1; omega) (by show 1 + 0 = _; omega) ?_
      repeat array_get_dec
      refine r_stD h.ha rfl rfl put_row ?_
      repeat array_get_dec
      refine K2 _ ?_ (fun b hb _ => mset_ne hb)
      show OneAt _ a q pa (s.lay c v (c + 1))
      rw [lay_put]
      exact h.setS pa ⟨s.k, layP c [(1, v)] (c + 1) s.r, s.t, s.w⟩ rfl
  | from_ x y =>
    cases e
    have K2 : match (ptQ wd s.r (.from_ x y)).map fun cv => s.lay cv.1 cv.2 (cv.1 + 1) with
      | some s' => ∀ μ', OneAt μ' a q pa s' → Fr2 a q μ μ' → Φ (.bl true) μ'
      | none => Φ (.bl false) μ := K
    clear K
    repeat (first|refine u_dicS h.dic look_row ?_|array_get_dec)
    refine spPutThere R ok rfl rfl ?_
    generalize ptQ wd s.r (.from_ x y) = o at K2 ⊢
    cases o with
    | none =>
      unfold putQ
      repeat array_get_dec
      exact K2
    | some cv =>
      obtain ⟨c, v⟩ := cv
      unfold putQ
      repeat array_get_dec
      refine spLawWith (b := c) (e := c + 1) (part := [(1, v)]) g hl (by simp) (fun p hp => by rw [List.mem_singleton.mp hp]; show (0 : Int) < 1; omega) (by show 1 + 0 = _; omega) ?_
      repeat array_get_dec
      refine r_stD h.ha rfl rfl put_row ?_
      repeat array_get_dec
      refine K2 _ ?_ (fun b hb _ => mset_ne hb)
      show OneAt _ a q pa (s.lay c v (c + 1))
      rw [lay_put]
      exact h.setS pa ⟨s.k, layP c [(1, v)] (c + 1) s.r, s.t, s.w⟩ rfl
  | into x y =>
    cases e
    have K2 : match (ptQ wd s.r (.into x y)).map fun cv => s.lay cv.1 cv.2 (cv.1 + 1) with
      | some s' => ∀ μ', OneAt μ' a q pa s' → Fr2 a q μ μ' → Φ (.bl true) μ'
      | none => Φ (.bl false) μ := K
    clear K
    repeat (first|refine u_dicS h.dic look_row ?_|array_get_dec)
    refine spPutThere R ok rfl rfl ?_
    generalize ptQ wd s.r (.into x y) = o at K2 ⊢
    cases o with
    | none =>
      unfold putQ
      repeat array_get_dec
      exact K2
    | some cv =>
      obtain ⟨c, v⟩ := cv
      unfold putQ
      repeat array_get_dec
      refine spLawWith (b := c) (e := c + 1) (part := [(1, v)]) g hl (by simp) (fun p hp => by rw [List.mem_singleton.mp hp]; show (0 : Int) < 1; omega) (by show 1 + 0 = _; omega) ?_
      repeat array_get_dec
      refine r_stD h.ha rfl rfl put_row ?_
      repeat array_get_dec
      refine K2 _ ?_ (fun b hb _ => mset_ne hb)
      show OneAt _ a q pa (s.lay c v (c + 1))
      rw [lay_put]
      exact h.setS pa ⟨s.k, layP c [(1, v)] (c + 1) s.r, s.t, s.w⟩ rfl
  | less _ _ _ => cases hi
  | same _ _ _ => cases hi
  | fork _ => cases hi
  | fail => cases hi
  | done => cases hi
theorem step_does {is : List Ins} {wd : Int} {s : St} {i : Ins} (hi : chgs i = true) : stepI is wd s i = match doesS wd s i with
      | some s' => s'.come is (s.k + 1)
      | none => s.fail := by
  cases i <;> first
    | (cases hi; done)
    | rfl
    | (unfold stepI doesS ptQ ledQ
       dsimp only
       split <;> rfl)
theorem doesS_w {wd : Int} {s s' : St} {i : Ins} (h : doesS wd s i = some s') : s'.w = s.w ∧ s'.k = s.k := by
  cases i <;> (
    unfold doesS at h
    first
      | (injection h with h; subst h; exact ⟨rfl, rfl⟩)
      | (obtain ⟨cv, _, rfl⟩ := Option.map_eq_some_iff.mp h
         exact ⟨rfl, rfl⟩))
theorem spTurnS {n m : Nat} {is : List Ins} {wd : Int} {a q : Addr} {pa : Str} {s : St} {i : Ins} {μ : Mem} {Φ : AQ} {Ψ : AX} (h : OneAt μ a q pa s) (R : RowOk wd m s.r) (ht : s.t.length ≤ 100) (hw : s.w = "") (hk : 0 ≤ s.k) (hi : is[s.k.toNat]? = some i) (ok : i.ok wd is.length (-1)) (hf : isFork i = false) (hd : isDone i = false)
    (K : ∀ μ', OneAt μ' a q pa (stepI is wd s i) → Fr2 a q μ μ' → Φ .non μ') : xN T (n + 6) 62 [.list (is.map insD), .ref a] μ Φ Ψ := by
  refine k_call (fd := d62) rfl rfl ?_
  show xSs T (xN T (n + 5)) b62 _ [some (.list (is.map insD)), some (.ref a), none, none, none, none, none, none, none, none] μ
  unfold b62
  have hat := at_row hk hi
  have g := R.good
  have hl2 : s.r.length ≤ 100000 := by have := R.len; omega
  have hlt : s.k < is.length := by have := (List.getElem?_eq_some_iff.mp hi).1; omega
  cases i with
  | fork _ => cases hf
  | done => cases hd
  | fail =>
    repeat (first|refine u_dicS h.dic look_place ?_|refine u_seq sq_list hat ?_|refine s_inW (by decide +kernel) (by decide +kernel) ?_|array_get_dec)
    refine r_stD h.ha rfl rfl put_rest ?_
    repeat array_get_dec
    exact K _ (h.setS pa s.fail rfl) (fun b hb _ => mset_ne hb)
  | less x y g2 =>
    have K2 : ∀ μ', OneAt μ' a q pa (s.come is (if atP s.r x < atP s.r y then g2 else s.k + 1)) → Fr2 a q μ μ' → Φ .non μ' := K
    clear K
    have og := ok.2.2
    repeat (first|refine u_dicS h.dic look_place ?_|refine u_dicS h.dic look_row ?_|refine u_seq sq_list hat ?_|refine s_inW (by decide +kernel) (by decide +kernel) ?_|array_get_dec)
    refine spLawAt g hl2 ok.1 ?_
    repeat (first|refine u_dicS h.dic look_row ?_|array_get_dec)
    refine spLawAt g hl2 ok.2.1 ?_
    generalize atP s.r x = vx at K2 ⊢
    generalize atP s.r y = vy at K2 ⊢
    repeat array_get_dec
    refine q_d (fun hc => ?_) (fun hc => ?_)
    · repeat array_get_dec
      refine spComes h (by omega) (by omega) (fun μ' h' f' => ?_)
      repeat array_get_dec
      rw [if_pos hc] at K2
      exact K2 _ h' (fun b hb _ => f' b hb)
    · repeat array_get_dec
      refine spComes h (by omega) (by omega) (fun μ' h' f' => ?_)
      repeat array_get_dec
      rw [if_neg hc] at K2
      exact K2 _ h' (fun b hb _ => f' b hb)
  | same x y g2 =>
    have K2 : ∀ μ', OneAt μ' a q pa (s.come is (if atP s.r x = atP s.r y then g2 else s.k + 1)) → Fr2 a q μ μ' → Φ .non μ' := K
    clear K
    have og := ok.2.2
    repeat (first|refine u_dicS h.dic look_place ?_|refine u_dicS h.dic look_row ?_|refine u_seq sq_list hat ?_|refine s_inW (by decide +kernel) (by decide +kernel) ?_|array_get_dec)
    refine spLawAt g hl2 ok.1 ?_
    repeat (first|refine u_dicS h.dic look_row ?_|array_get_dec)
    refine spLawAt g hl2 ok.2.1 ?_
    generalize atP s.r x = vx at K2 ⊢
    generalize atP s.r y = vy at K2 ⊢
    repeat array_get_dec
    refine q_d (fun hc => ?_) (fun hc => ?_)
    · repeat array_get_dec
      refine spComes h (by omega) (by omega) (fun μ' h' f' => ?_)
      repeat array_get_dec
      rw [if_pos hc] at K2
      exact K2 _ h' (fun b hb _ => f' b hb)
    · repeat array_get_dec
      refine spComes h (by omega) (by omega) (fun μ' h' f' => ?_)
      repeat array_get_dec
      rw [if_neg hc] at K2
      exact K2 _ h' (fun b hb _ => f' b hb)
  | put x v =>
    repeat (first|refine u_dicS h.dic look_place ?_|refine u_seq sq_list hat ?_|refine s_inW (by decide +kernel) (by decide +kernel) ?_|array_get_dec)
    refine spDoes h R ht ok rfl rfl ?_
    have e := step_does (is := is) (wd := wd) (s := s) (i := .put x v) rfl
    rw [e] at K
    cases hq : doesS wd s (.put x v) with
    | none =>
      rw [hq] at K
      repeat array_get_dec
      refine r_stD h.ha rfl rfl put_rest ?_
      repeat array_get_dec
      exact K _ (h.setS pa s.fail rfl) (fun b hb _ => mset_ne hb)
    | some s' =>
      rw [hq] at K
      intro μ1 h1 f1
      repeat array_get_dec
      refine spComes h1 (by omega) (by omega) (fun μ' h' f' => ?_)
      repeat array_get_dec
      exact K _ h' (f1.trans fun b hb _ => f' b hb)
  | move x y =>
    repeat (first|refine u_dicS h.dic look_place ?_|refine u_seq sq_list hat ?_|refine s_inW (by decide +kernel) (by decide +kernel) ?_|array_get_dec)
    refine spDoes h R ht ok rfl rfl ?_
    have e := step_does (is := is) (wd := wd) (s := s) (i := .move x y) rfl
    rw [e] at K
    cases hq : doesS wd s (.move x y) with
    | none =>
      rw [hq] at K
      repeat array_get_dec
      refine r_stD h.ha rfl rfl put_rest ?_
      repeat array_get_dec
      exact K _ (h.setS pa s.fail rfl) (fun b hb _ => mset_ne hb)
    | some s' =>
      rw [hq] at K
      intro μ1 h1 f1
      repeat array_get_dec
      refine spComes h1 (by omega) (by omega) (fun μ' h' f' => ?_)
      repeat array_get_dec
      exact K _ h' (f1.trans fun b hb _ => f' b hb)
  | add x y =>
    repeat (first|refine u_dicS h.dic look_place ?_|refine u_seq sq_list hat ?_|refine s_inW (by decide +kernel) (by decide +kernel) ?_|array_get_dec)
    refine spDoes h R ht ok rfl rfl ?_
    have e := step_does (is := is) (wd := wd) (s := s) (i := .add x y) rfl
    rw [e] at K
    cases hq : doesS wd s (.add x y) with
    | none =>
      rw [hq] at K
      repeat array_get_dec
      refine r_stD h.ha rfl rfl put_rest ?_
      repeat array_get_dec
      exact K _ (h.setS pa s.fail rfl) (fun b hb _ => mset_ne hb)
    | some s' =>
      rw [hq] at K
      intro μ1 h1 f1
      repeat array_get_dec
      refine spComes h1 (by omega) (by omega) (fun μ' h' f' => ?_)
      repeat array_get_dec
      exact K _ h' (f1.trans fun b hb _ => f' b hb)
  | from_ x y =>
    repeat (first|refine u_dicS h.dic look_place ?_|refine u_seq sq_list hat ?_|refine s_inW (by decide +kernel) (by decide +kernel) ?_|array_get_dec)
    refine spDoes h R ht ok rfl rfl ?_
    have e := step_does (is := is) (wd := wd) (s := s) (i := .from_ x y) rfl
    rw [e] at K
    cases hq : doesS wd s (.from_ x y) with
    | none =>
      rw [hq] at K
      repeat array_get_dec
      refine r_stD h.ha rfl rfl put_rest ?_
      repeat array_get_dec
      exact K _ (h.setS pa s.fail rfl) (fun b hb _ => mset_ne hb)
    | some s' =>
      rw [hq] at K
      intro μ1 h1 f1
      repeat array_get_dec
      refine spComes h1 (by omega) (by omega) (fun μ' h' f' => ?_)
      repeat array_get_dec
      exact K _ h' (f1.trans fun b hb _ => f' b hb)
  | into x y =>
    repeat (first|refine u_dicS h.dic look_place ?_|refine u_seq sq_list hat ?_|refine s_inW (by decide +kernel) (by decide +kernel) ?_|array_get_dec)
    refine spDoes h R ht ok rfl rfl ?_
    have e := step_does (is := is) (wd := wd) (s := s) (i := .into x y) rfl
    rw [e] at K
    cases hq : doesS wd s (.into x y) with
    | none =>
      rw [hq] at K
      repeat array_get_dec
      refine r_stD h.ha rfl rfl put_rest ?_
      repeat array_get_dec
      exact K _ (h.setS pa s.fail rfl) (fun b hb _ => mset_ne hb)
    | some s' =>
      rw [hq] at K
      intro μ1 h1 f1
      repeat array_get_dec
      refine spComes h1 (by omega) (by omega) (fun μ' h' f' => ?_)
      repeat array_get_dec
      exact K _ h' (f1.trans fun b hb _ => f' b hb)
  | fill x y z =>
    repeat (first|refine u_dicS h.dic look_place ?_|refine u_seq sq_list hat ?_|refine s_inW (by decide +kernel) (by decide +kernel) ?_|array_get_dec)
    refine spDoes h R ht ok rfl rfl ?_
    have e := step_does (is := is) (wd := wd) (s := s) (i := .fill x y z) rfl
    rw [e] at K
    cases hq : doesS wd s (.fill x y z) with
    | none =>
      rw [hq] at K
      repeat array_get_dec
      refine r_stD h.ha rfl rfl put_rest ?_
      repeat array_get_dec
      exact K _ (h.setS pa s.fail rfl) (fun b hb _ => mset_ne hb)
    | some s' =>
      rw [hq] at K
      intro μ1 h1 f1
      repeat array_get_dec
      refine spComes h1 (by omega) (by omega) (fun μ' h' f' => ?_)
      repeat array_get_dec
      exact K _ h' (f1.trans fun b hb _ => f' b hb)
  | tell x =>
    repeat (first|refine u_dicS h.dic look_place ?_|refine u_seq sq_list hat ?_|refine s_inW (by decide +kernel) (by decide +kernel) ?_|array_get_dec)
    refine spDoes h R ht ok rfl rfl ?_
    have e := step_does (is := is) (wd := wd) (s := s) (i := .tell x) rfl
    rw [e] at K
    cases hq : doesS wd s (.tell x) with
    | none =>
      rw [hq] at K
      repeat array_get_dec
      refine r_stD h.ha rfl rfl put_rest ?_
      repeat array_get_dec
      exact K _ (h.setS pa s.fail rfl) (fun b hb _ => mset_ne hb)
    | some s' =>
      rw [hq] at K
      intro μ1 h1 f1
      repeat array_get_dec
      refine spComes h1 (by omega) (by omega) (fun μ' h' f' => ?_)
      repeat array_get_dec
      exact K _ h' (f1.trans fun b hb _ => f' b hb)
theorem spTurnF {n : Nat} {is : List Ins} {g : Int} {a q : Addr} {pa : Str} {s : St} {μ : Mem} {Φ : AQ} {Ψ : AX} (h : OneAt μ a q pa s) (hw : s.w = "") (hk : 0 ≤ s.k) (hi : is[s.k.toNat]? = some (.fork g)) (hg : 0 ≤ g ∧ g ≤ is.length) (hpa : pa.length ≤ 1000)
    (K : ∀ a' q' μ', μ a' = none → μ q' = none → OneAt μ' a' q' (pa ++ "y") (s.come is g) → OneAt μ' a q (pa ++ "e") (s.come is (s.k + 1)) → ExA a μ μ' → Φ (.ref a') μ') : xN T (n + 6) 62 [.list (is.map insD), .ref a] μ Φ Ψ := by
  refine k_call (fd := d62) rfl rfl ?_
  show xSs T (xN T (n + 5)) b62 _ [some (.list (is.map insD)), some (.ref a), none, none, none, none, none, none, none, none] μ
  unfold b62
  have hat := at_row hk hi
  have hlt : s.k < is.length := by have := (List.getElem?_eq_some_iff.mp hi).1; omega
  have e1 : sizeLine = 16777216 := rfl
  have ly : (Str.ofString "y").length = 1 := by decide
  have le : (Str.ofString "e").length = 1 := by decide
  repeat (first|refine u_dicS h.dic look_place ?_|refine u_dicS h.dic look_path ?_|refine u_seq sq_list hat ?_|array_get_dec)
  refine b_str (by omega) ?_
  repeat (first|refine u_dicS h.dic look_row ?_|array_get_dec)
  refine f_list sq_list ?_
  repeat (first|refine u_dicS h.dic look_told ?_|array_get_dec)
  refine f_list (sq_ref h.hq) ?_
  refine n_t (fun q' hq' => ?_)
  have x1 : Ex μ (mset μ q' (.lst (s.t.map .int))) := (Ex.refl μ).new hq'
  have hq2 : mset μ q' (.lst (s.t.map .int)) q' = some (.lst (s.t.map .int)) := mset_same
  generalize mset μ q' (.lst (s.t.map .int)) = μ1 at x1 hq2 ⊢
  repeat array_get_dec
  refine n_kt (fun a' ha' => ?_)
  have ha0 := x1.back ha'
  generalize hμ2 : mset μ1 a' _ = μ2
  have ha3 : μ2 a' = some (.dK [.inr "path", .inr "row", .inr "told", .inr "rest"] [.str (pa ++ "y"), .list (rD s.r), .ref q', .str ""]) := by rw [← hμ2]; exact mset_same
  have hq3 : μ2 q' = some (.lst (s.t.map .int)) := by rw [← hμ2]; exact (mset_ne (fresh_ne ha' hq2)).trans hq2
  have x3 : Ex μ μ2 := by rw [← hμ2]; exact x1.trans ((Ex.refl μ1).new ha')
  have h2 := h.ex x3
  have naa : a' ≠ a := (fresh_ne ha0 h.ha).symm
  have nqa : q' ≠ a := (fresh_ne hq' h.ha).symm
  repeat (first|refine u_dicS h2.dic look_path ?_|array_get_dec)
  refine b_str (by omega) ?_
  repeat array_get_dec
  refine r_stD h2.ha rfl rfl put_path ?_
  repeat array_get_dec
  refine spComes (h2.setS (pa ++ "e") s rfl) (by omega) (by omega) (fun μ3 h3 f3 => ?_)
  repeat array_get_dec
  refine spComesG (s := s) (pa := pa ++ "y") (q := q') ((f3 _ naa).trans ((mset_ne naa).trans ha3)) rfl (hw ▸ put_new) ((f3 _ nqa).trans ((mset_ne nqa).trans hq3)) hg.1 hg.2 (fun μ4 h4 f4 => ?_)
  repeat array_get_dec
  refine K a' q' μ4 ha0 hq' h4 ⟨(f4 _ naa.symm).trans h3.ha, (f4 _ ?_).trans h3.hq⟩ (fun b hb hb2 => ?_)
  · exact fresh_ne ha0 h.hq
  · have nb : b ≠ a' := fun z => hb2 (z ▸ ha0)
    rw [f4 b nb, f3 b hb, mset_ne hb]
    exact x3 b hb2
end Fk
end
section
set_option maxHeartbeats 4000000
namespace Fk
open PySem PySem.Spec PyProof.Rows L2
theorem Ex.fr2 {μ μ1 μ2 : Mem} {a q : Addr} (e : Ex μ μ1) (ha : μ a = none) (hq : μ q = none) (x : Fr2 a q μ1 μ2) : Ex μ μ2 := fun b hb => by
  rw [← e b hb]
  exact x b (fun z => hb (z ▸ ha)) (fun z => hb (z ▸ hq))
theorem c_isn {T : Tbl} {call : ACall} {x y : D} {μ : Mem} {Φ : AQ} {Ψ : AX} (q : xcmpS .IsNot x y μ Φ) : xcmpC T call .IsNot x y μ Φ Ψ := by
  unfold xcmpC
  unfold xcmpS at q
  cases x <;> exact q
theorem head_fork {i : Ins} {w : Str} {t : List D} (e : insD i = .tup (.str w :: t)) : decide (w = "fork") = isFork i := by
  cases i <;> (cases e; first | exact decide_eq_false (by decide) | exact decide_eq_true (by decide))
theorem spDue {n : Nat} {lp is : List Ins} {wd : Int} {bs : List Bool} {μ : Mem} {Φ : AQ} {Ψ : AX} (hP : PlanAt wd is.length lp is) (hl : is.length ≤ 20) (hwd : 1 ≤ wd ∧ wd ≤ 1000000000000000000) (hb : bs.length ≤ 1000)
    (K1 : (resP is wd bs).2 < bs.length → ∀ μ', Ex μ μ' → Φ (.str "left") μ')
    (K2 : ¬ (resP is wd bs).2 < bs.length → ∀ q μ', μ q = none → μ' q = some (.lst ((resP is wd bs).1.t.map .int)) → Ex μ μ' → Φ (.tup [.str (wordR (resP is wd bs).1), .ref q, .list (rD (resP is wd bs).1.r)]) μ') : xN T (n + 7) 63 [.int wd, .list (is.map insD), .str (pathS bs)] μ Φ Ψ := by
  refine k_call (fd := d63) rfl rfl ?_
  show xSs T (xN T (n + 6)) b63 _ [some (.int wd), some (.list (is.map insD)), some (.str (pathS bs)), none, none, none] μ
  unfold b63
  have hok := plan_ok hP
  have hpl : (pathS bs).length ≤ sizeLine := by rw [pathS_len]; have e1 : sizeLine = 16777216 := rfl; omega
  generalize hRR : resP is wd bs = RR at K1 K2
  refine w_cons ?_
  repeat array_mem_dec
  refine spBegun (fun a q μ1 ha0 hq0 h1 hE => ?_)
  repeat array_mem_dec
  refine w_seq (fun ρ μ' => ∃ (a q : Addr) (pa : Str) (s : St) (u : Nat) (y : Option D), ρ = [some (.int wd), some (.list (is.map insD)), some (.str (pathS bs)), some (.ref a), some (.int (u : Nat)), y] ∧ μ a = none ∧ μ q = none ∧ OneAt μ' a q pa s ∧ RR = (s, u) ∧ Ex μ μ') ?_ (fun N hN => ?_)
  · rintro ρ μ' ⟨a, q, pa, s, u, y, rfl, ha0, hq0, h, rfl, hE⟩
    repeat (first|refine f_lenS hpl ?_|array_get_dec)
    rw [pathS_len]
    refine q_d (fun hu => ?_) (fun hu => ?_)
    · repeat array_get_dec
      exact K1 (by omega) _ hE
    · repeat (first|refine u_dicS h.dic look_rest ?_|array_get_dec)
      refine q_nd (fun hw => ?_) (fun hw => ?_)
      · repeat (first|refine u_dicS h.dic look_rest ?_|refine u_dicS h.dic look_told ?_|refine u_dicS h.dic look_row ?_|array_get_dec)
        have e : wordR s = s.w := if_neg hw
        have k := K2 (by omega) q μ' hq0 h.hq hE
        rw [e] at k
        exact k
      · repeat (first|refine u_dicS h.dic look_rest ?_|refine u_dicS h.dic look_told ?_|refine u_dicS h.dic look_row ?_|array_get_dec)
        have e : wordR s = "fork" := if_pos hw
        have k := K2 (by omega) q μ' hq0 h.hq hE
        rw [e] at k
        exact k
  · refine w_while (fun m ρ μ' => ∃ (a q : Addr) (pa : Str) (s : St) (u : Nat) (y : Option D) (uu : Int), ρ = [some (.int wd), some (.list (is.map insD)), some (.str (pathS bs)), some (.ref a), some (.int uu), y] ∧ uu = ((u : Nat) : Int) ∧ pa.length + m ≤ 100 ∧ μ a = none ∧ μ q = none ∧ OneAt μ' a q pa s ∧ Liv wd lp is m s ∧ goP is wd bs m s u = RR ∧ Ex μ μ') 100 ?_ ⟨a, q, "", _, 0, none, _, rfl, rfl, by decide, ha0, hq0, h1, liv_begin hP hl hwd.1, hRR, hE⟩
    rintro m ρ μ' K hK ⟨a, q, pa, s, u, y, uu, rfl, hu1, hpa, ha0, hq0, h, L, hR, hE⟩
    by_cases hw : s.w = ""
    · cases m with
      | zero => exact (liv_zero hP L hw).elim
      | succ m =>
        have hm1 := L.m1
        have htl := L.tl
        obtain ⟨i, hi, hd⟩ := L.lv hw
        have hat := at_row L.pl.1 hi
        obtain ⟨w2, t2, e2⟩ := insD_head i
        have hfk := head_fork e2
        cases hf : isFork i with
        | false =>
          rw [hf] at hfk
          rw [e2] at hat
          repeat (first|refine u_dicS h.dic look_rest ?_|array_get_dec)
          rw [decide_eq_true hw]
          repeat (first|refine f_lenS hpl ?_|array_get_dec)
          rw [pathS_len]
          refine q_d (fun hu => ?_) (fun hu => ?_)
          · repeat array_get_dec
            refine spTurnS h L.row (by omega) hw L.pl.1 hi (hok _ _ hi) hf hd (fun μ2 h2 f2 => ?_)
            repeat array_get_dec
            rw [goP_step hw hi hf] at hR
            exact hK m _ _ (Nat.lt_succ_self m) ⟨a, q, pa, _, u, _, _, rfl, hu1, by omega, ha0, hq0, h2, step_liv hP hl L hw hi hf, hR, hE.fr2 ha0 hq0 f2⟩
          · repeat (first|refine u_dicS h.dic look_place ?_|refine u_seq sq_list hat ?_|array_get_dec)
            rw [hfk]
            repeat array_get_dec
            refine spTurnS h L.row (by omega) hw L.pl.1 hi (hok _ _ hi) hf hd (fun μ2 h2 f2 => ?_)
            repeat array_get_dec
            rw [goP_step hw hi hf] at hR
            exact hK m _ _ (Nat.lt_succ_self m) ⟨a, q, pa, _, u, _, _, rfl, hu1, by omega, ha0, hq0, h2, step_liv hP hl L hw hi hf, hR, hE.fr2 ha0 hq0 f2⟩
        | true =>
          rw [hf] at hfk
          rw [e2] at hat
          obtain ⟨g, rfl⟩ := fork_of hf
          repeat (first|refine u_dicS h.dic look_rest ?_|array_get_dec)
          rw [decide_eq_true hw]
          repeat (first|refine f_lenS hpl ?_|array_get_dec)
          rw [pathS_len]
          refine q_d (fun hu => ?_) (fun hu => ?_)
          · repeat array_get_dec
            have kk := fork_liv hP hl L hw hi
            refine spTurnF h hw L.pl.1 hi kk.2.2 (by omega) (fun a' q' μ2 ha' hq' hy he x2 => ?_)
            have hub : u < bs.length := by omega
            have hu2 : bs[u]? = some bs[u] := List.getElem?_eq_getElem hub
            rw [goP_fork hw hi hu2] at hR
            have hat2 := path_at hu2
            rw [← hu1] at hat2
            have ly : (pa ++ Str.ofString "y").length = pa.length + 1 := by rw [strapp_len]; rfl
            have le : (pa ++ Str.ofString "e").length = pa.length + 1 := by rw [strapp_len]; rfl
            repeat (first|refine u_str hpl hat2 ?_|refine c_isn ?_|array_get_dec)
            cases hbu : bs[u] with
            | true =>
              rw [hbu] at hR
              have ez : (⟨#[if true = true then 121 else 101]⟩ : Str) = ⟨#[121]⟩ := rfl
              rw [ez, decide_eq_true chr_y]
              repeat array_get_dec
              exact hK m _ _ (Nat.lt_succ_self m) ⟨a', q', _, _, u + 1, _, _, rfl, by omega, by omega, hE.back ha', hE.back hq', hy, kk.2.1, hR, hE.exA2 ha0 x2⟩
            | false =>
              rw [hbu] at hR
              have ez : (⟨#[if false = true then 121 else 101]⟩ : Str) = ⟨#[101]⟩ := rfl
              rw [ez, decide_eq_false chr_e]
              repeat array_get_dec
              exact hK m _ _ (Nat.lt_succ_self m) ⟨a, q, _, _, u + 1, _, _, rfl, by omega, by omega, ha0, hq0, he, kk.1, hR, hE.exA2 ha0 x2⟩
          · repeat (first|refine u_dicS h.dic look_place ?_|refine u_seq sq_list hat ?_|array_get_dec)
            rw [hfk]
            repeat array_get_dec
            have hu2 : bs[u]? = none := List.getElem?_eq_none (by omega)
            rw [goP_end hw hi hu2] at hR
            subst hu1
            exact hN _ _ ⟨a, q, pa, s, u, y, rfl, ha0, hq0, h, hR.symm, hE⟩
    · repeat (first|refine u_dicS h.dic look_rest ?_|array_get_dec)
      rw [decide_eq_false hw]
      repeat array_get_dec
      rw [goP_rest hw] at hR
      subst hu1
      exact hN _ _ ⟨a, q, pa, s, u, y, rfl, ha0, hq0, h, hR.symm, hE⟩
end Fk
end
section
set_option maxHeartbeats 4000000
namespace Fk
open PySem PySem.Spec PyProof.Rows L2
/-! what is told, as data -/
def resD (s : St) : D := .tup [.str (wordR s), .list (s.t.map .int), .list (rD s.r)]
theorem row_mem : ∀ {r : Rw}, Pos r → ∀ q ∈ r, q.1 ≤ sumP r ∧ ∃ c, 0 ≤ c ∧ c < sumP r ∧ atP r c = q.2
  | [], _, q, h => by cases h
  | (m, v) :: r, hp, q, h => by
    have h1 : 0 < m := hp.tl.1
    have h2 := sumP_nn hp.tl.2
    rcases List.mem_cons.mp h with rfl | h
    · refine ⟨by show m ≤ m + sumP r; omega, 0, Int.le_refl _, by show 0 < m + sumP r; omega, ?_⟩
      show (if 0 < m then v else _) = v
      rw [if_pos h1]
    · obtain ⟨h3, c, h4, h5, h6⟩ := row_mem hp.tl.2 q h
      refine ⟨by show q.1 ≤ m + sumP r; omega, c + m, by omega, by show c + m < m + sumP r; omega, ?_⟩
      show (if c + m < m then v else atP r (c + m - m)) = q.2
      rw [if_neg (by omega), show c + m - m = c by omega]
      exact h6
theorem word_ok {s : St} (h : s.w = "" ∨ s.w = "done" ∨ s.w = "failed") : PyData.strOk (wordR s) = true ∧ (wordR s).cps.size ≤ 6 := by
  unfold wordR
  rcases h with h | h | h <;> rw [h]
  · rw [if_pos rfl]; decide +kernel
  · rw [if_neg (by decide)]; decide +kernel
  · rw [if_neg (by decide)]; decide +kernel
theorem res_ok {wd : Int} {lp is : List Ins} {m : Nat} {s : St} (L : Liv wd lp is m s) (hwd : 1 ≤ wd ∧ wd ≤ 1000000000000000000) : okD (resD s) ∧ dep (resD s) ≤ 60 ∧ wei (resD s) ≤ 200000 ∧ nodic (resD s) = true := by
  have e60 : (10 : Int) ^ 60 = 1000000000000000000000000000000000000000000000000000000000000 := by decide
  have lt := lim_top
  rw [e60] at lt
  have iok : ∀ v : Int, -(lim 100) ≤ v ∧ v ≤ lim 100 → okD (.int v) := fun v h => by
    show -(10 : Int) ^ 60 ≤ v ∧ v ≤ (10 : Int) ^ 60
    rw [e60]
    omega
  have lm := lim_mono (show 100 - m ≤ 100 by omega)
  have lp0 := lim_pos 100
  have g := L.row.good
  have gs := g.sum
  have tok : ∀ d ∈ s.t.map D.int, okD d := fun d hd => by
    obtain ⟨v, hv, rfl⟩ := List.mem_map.mp hd
    exact iok v (L.tb v hv)
  have rok : ∀ d ∈ rD s.r, okD d ∧ dep d ≤ 1 ∧ wei d ≤ 422 ∧ nodic d = true := fun d hd => by
    obtain ⟨q, hq, rfl⟩ := mem_rD hd
    obtain ⟨h1, c, h2, h3, h4⟩ := row_mem g.pos q hq
    have h5 := g.pos q hq
    have h6 := L.row.bd c h2 (by omega)
    rw [h4] at h6
    exact ⟨⟨iok _ (by omega), iok _ (by omega), trivial⟩, Nat.le_refl _, Nat.le_refl _, rfl⟩
  have w := word_ok L.wd_
  have tl := L.tl
  have rl := L.row.len
  refine ⟨⟨w.1, okL_of tok, okL_of fun d hd => (rok d hd).1, trivial⟩, ?_, ?_, ?_⟩
  · have d1 : depL (s.t.map D.int) ≤ 0 := depL_le fun d hd => by
      obtain ⟨v, hv, rfl⟩ := List.mem_map.mp hd
      exact Nat.le_refl _
    have d2 : depL (rD s.r) ≤ 1 := depL_le fun d hd => (rok d hd).2.1
    show max 0 (max (depL (s.t.map D.int) + 1) (max (depL (rD s.r) + 1) 0)) + 1 ≤ 60
    omega
  · have w1 : weiL (s.t.map D.int) ≤ (210 + 1) * (s.t.map D.int).length := weiL_le fun d hd => by
      obtain ⟨v, hv, rfl⟩ := List.mem_map.mp hd
      exact Nat.le_refl _
    have w2 : weiL (rD s.r) ≤ (422 + 1) * (rD s.r).length := weiL_le fun d hd => (rok d hd).2.2.1
    have l2 : (rD s.r).length = s.r.length := by unfold rD; rw [List.length_map]
    rw [List.length_map] at w1
    rw [l2] at w2
    show (wordR s).cps.size + 1 + (weiL (s.t.map D.int) + 1 + (weiL (rD s.r) + 1 + 0)) ≤ 200000
    omega
  · have n1 : nodicL (s.t.map D.int) = true := nodicL_of fun d hd => by
      obtain ⟨v, hv, rfl⟩ := List.mem_map.mp hd
      rfl
    have n2 : nodicL (rD s.r) = true := nodicL_of fun d hd => (rok d hd).2.2.2
    show (true && (nodicL (s.t.map D.int) && (nodicL (rD s.r) && true))) = true
    rw [n1, n2]; rfl
theorem res_val {s : St} (h : okD (resD s)) (h1 : nodic (resD s) = true) (h2 : dep (resD s) ≤ 60) : ∃ ps, (resD s).py = some (.tuple ps) ∧ SeqAt.shaped (.tuple ps) = true := by
  obtain ⟨p, e, k⟩ := Val.of h h1 (by omega)
  have e2 : (D.pyL [.str (wordR s), .list (s.t.map .int), .list (rD s.r)]).map PyData.tuple = some p := e
  obtain ⟨ps, _, rfl⟩ := Option.map_eq_some_iff.mp e2
  exact ⟨ps, e, k⟩
/-! letters -/
def chS (b : Bool) : Str := ⟨#[if b then 121 else 101]⟩
theorem join_ch (bs : List Bool) : Txt.join "" (bs.map chS) = pathS bs := by
  refine TL.ext_tl ?_
  rw [TL.join_eq, TL.tl_join, List.map_map]
  have e0 : TL.tl (Str.ofString "") = [] := by decide
  rw [e0]
  have e2 : ∀ l : List Bool, TL.joinL [] (l.map (TL.tl ∘ chS)) = l.map fun b => if b then 121 else 101 := by
    intro l
    induction l with
    | nil => rfl
    | cons b l ih =>
      cases l with
      | nil => rfl
      | cons c l =>
        show TL.tl (chS b) ++ ([] ++ TL.joinL [] ((c :: l).map (TL.tl ∘ chS))) = _
        rw [ih]; rfl
  rw [e2]
  exact (pathS_l bs).symm
theorem mul_e (n : Nat) : Txt.mul "e" (n : Int) = pathS (List.replicate n false) := by
  have e0 : (Str.ofString "e") = ⟨#[101]⟩ := by decide
  show Txt.mul (Str.ofString "e") _ = _
  rw [e0]
  have h := mul_one_list 101 (n : Int)
  have h2 := pathS_l (List.replicate n false)
  rw [List.map_replicate] at h2
  rw [Int.toNat_natCast] at h
  have h3 : (Txt.mul ⟨#[101]⟩ (n : Int)).cps.toList = (pathS (List.replicate n false)).cps.toList := by rw [h, h2]; rfl
  exact TL.ext_tl h3
theorem cut_one (bs : List Bool) : cutS (pathS bs) none (some 1) = pathS (bs.take 1) := by
  unfold cutS
  rw [pathS_l, pathS_len]
  have e : HT.sIx bs.length bs.length (some 1) = min 1 bs.length := by
    rw [show (1 : Int) = ((1 : Nat) : Int) from rfl, HT.sIx_nat]
  rw [e, HT.sIx_none, List.drop_zero, Nat.sub_zero]
  unfold pathS
  congr 1
  rw [List.map_take]
  congr 1
  cases bs with
  | nil => rfl
  | cons b bs =>
    rw [show min 1 (b :: bs).length = 1 by simp]
theorem spTold {n : Nat} {lp is : List Ins} {wd : Int} {bs : List Bool} {pr : Addr} {μ : Mem} {Φ : AQ} {Ψ : AX} (hpr : μ pr = some (prO wd (is.map insD))) (hP : PlanAt wd is.length lp is) (hl : is.length ≤ 20) (hwd : 1 ≤ wd ∧ wd ≤ 1000000000000000000) (hb : bs.length ≤ 1000)
    (K1 : (resP is wd bs).2 < bs.length → ∀ μ', Ex μ μ' → Φ (.str "left") μ')
    (K2 : ¬ (resP is wd bs).2 < bs.length → ∀ q z μ', μ q = none → μ z = none → q ≠ z → μ' q = some (.lst ((resP is wd bs).1.t.map .int)) → μ' z = some (.lst (rD (resP is wd bs).1.r)) → Ex μ μ' → Φ (.tup [.str (wordR (resP is wd bs).1), .ref q, .ref z]) μ') : xN T (n + 10) 64 [.ref pr, .str (pathS bs)] μ Φ Ψ := by
  refine k_call (fd := d64) rfl rfl ?_
  show xSs T (xN T (n + 9)) b64 _ [some (.ref pr), some (.str (pathS bs)), none] μ
  unfold b64
  repeat (first|refine w_tryN ?_|array_get_dec)
  refine spGone hpr hP hl hwd hb (fun hu μ' e => ?_) (fun hu q z μ' hq hz hqz h1 h2 e => ?_)
  · refine r_excN rfl ?_
    repeat array_get_dec
    exact K1 hu μ' e
  · repeat array_get_dec
    exact K2 hu q z μ' hq hz hqz h1 h2 e
end Fk
end
section
set_option maxHeartbeats 4000000
namespace Fk
open PySem PySem.Spec PyProof.Rows L2
theorem s_eqL {ds : List D} {μ : Mem} {Φ : AQ} (v : Val (.list ds)) (q : Φ (.bl true) μ) : xcmpS .Eq (.list ds) (.list ds) μ Φ := by
  obtain ⟨p, e, k⟩ := v
  refine xcmpS_ok (d := .bl true) ?_ q
  show (evEq μ (.list ds) (.list ds)).map D.bl = _
  have e2 : (deref μ (.list ds)).py = some p := e
  unfold evEq
  rw [e2]
  dsimp only
  rw [k, SeqAt.eqv_refl_plain p (PyData.plain_of_canLay0 p (shaped0 k))]
  rfl
theorem rows_val {s : Int} {lp is : List Ins} (h : PlanAt s is.length lp is) (hl : is.length ≤ 20) (hs2 : s ≤ 1000000000000000000) : Val (.list (is.map insD)) := by
  have hr := plan_rows h
  refine Val.of (show okL (is.map insD) from okL_of fun d hd => ((hr d hd).ent hs2 (by omega)).1.ok) (show nodicL (is.map insD) = true from nodicL_of fun d hd => ((hr d hd).ent hs2 (by omega)).2.1) ?_
  have d1 : depL (is.map insD) ≤ 1 := depL_le fun d hd => ((hr d hd).ent hs2 (by omega)).2.2
  show depL (is.map insD) + 1 ≤ 64
  omega
theorem derefT_told {μ : Mem} {s : St} {q z : Addr} (hq : μ q = some (.lst (s.t.map .int))) (hz : μ z = some (.lst (rD s.r))) : derefT μ (.tup [.str (wordR s), .ref q, .ref z]) = resD s := by
  show D.tup [.str (wordR s), deref μ (.ref q), deref μ (.ref z)] = _
  rw [de_ref hq, de_ref hz]
  rfl
theorem derefT_due {μ : Mem} {s : St} {q : Addr} (hq : μ q = some (.lst (s.t.map .int))) : derefT μ (.tup [.str (wordR s), .ref q, .list (rD s.r)]) = resD s := by
  show D.tup [.str (wordR s), deref μ (.ref q), .list (rD s.r)] = _
  rw [de_ref hq]
  rfl
theorem f_reprRes {x : D} {s : St} {μ : Mem} {Φ : AQ} (h : okD (resD s) ∧ dep (resD s) ≤ 60 ∧ wei (resD s) ≤ 200000 ∧ nodic (resD s) = true) (e : derefT μ x = resD s) (q : Φ (.str (shw (resD s))) μ) : xbfS .repr [x] μ Φ := by
  refine f_reprTOk (by rw [e]; exact h.1) (by rw [e]; exact h.2.1) (by rw [e]; exact h.2.2.1) ?_
  rw [e]
  exact q
theorem f_reprLeft {μ : Mem} {Φ : AQ} (q : Φ (.str (shw (.str "left"))) μ) : xbfS .repr [.str "left"] μ Φ :=
  f_reprOk (by show PyData.strOk _ = true; decide +kernel) (by show (0 : Nat) ≤ 60; decide) (by show (Str.ofString "left").cps.size ≤ 200000; decide) q
theorem spRight {n : Nat} {lp is : List Ins} {wd : Int} {a pr : Addr} {μ : Mem} {Φ : AQ} {Ψ : AX} (h : Pot μ a) (hpr : μ pr = some (prO wd (is.map insD))) (hpa : pr ≠ a) (hP : PlanAt wd is.length lp is) (hl : is.length ≤ 20) (hwd : 1 ≤ wd ∧ wd ≤ 1000000000000000000)
    (K : ∀ μ', Pot μ' a → ExA a μ μ' → Φ (.bl true) μ') : xN T (n + 11) 65 [.ref a, .ref pr, .int wd, .list (is.map insD)] μ Φ Ψ := by
  refine k_call (fd := d65) rfl rfl ?_
  show xSs T (xN T (n + 10)) b65 _ [some (.ref a), some (.ref pr), some (.int wd), some (.list (is.map insD)), none, none, none, none, none] μ
  unfold b65
  have e1 : sizeLine = 16777216 := rfl
  repeat (first|refine r_bmJ ?_|array_get_dec)
  refine spTake h (Fr.refl a μ) (by decide) (by decide) (fun k μ1 hk0 hk1 h f => ?_)
  repeat array_get_dec
  refine ⟨by omega, by omega, ?_⟩
  refine comp_inv (fun items acc μ' => ∃ bs : List Bool, acc = (bs.map chS).map D.str ∧ (∀ x ∈ items, ∃ i : Int, x = .int i) ∧ bs.length + items.length ≤ 7 ∧ Pot μ' a ∧ Fr a μ μ') ?_ ?_ _ _ _ ⟨[], rfl, fun x hx => by obtain ⟨i, _, rfl⟩ := List.mem_map.mp hx; exact ⟨_, rfl⟩, by rw [List.length_map, List.length_range]; simp; omega, h, f⟩
  · rintro acc μ2 ⟨bs, rfl, _, hbl, h2, f2⟩
    refine ⟨trivial, ?_⟩
    rw [List.length_nil] at hbl
    repeat array_get_dec
    refine r_join sq_list allStr_map ?_ ?_
    · have e3 : ((bs.map chS).map (·.length)).sum = bs.length := by
        rw [List.map_map]
        clear hbl
        induction bs with
        | nil => rfl
        | cons b bs ih =>
          rw [List.map_cons, List.sum_cons, ih, List.length_cons]
          show 1 + bs.length = _
          omega
      have e4 : (Str.ofString "").length = 0 := by decide
      rw [e3, List.length_map, e4]
      omega
    rw [join_ch]
    have hpl : (pathS bs).length ≤ sizeLine := by rw [pathS_len]; omega
    have hpr2 : μ2 pr = some (prO wd (is.map insD)) := (f2 pr hpa).trans hpr
    have le : (Str.ofString "e").length = 1 := by decide
    repeat (first|refine f_lenS hpl ?_|array_get_dec)
    rw [pathS_len]
    repeat (first|refine b_mulS (by rw [le]; omega) ?_|array_get_dec)
    rw [mul_e]
    repeat (first|refine r_slcS hpl ?_|array_get_dec)
    rw [cut_one]
    repeat array_get_dec
    refine for_inv (fun items ρ μ' => ∃ x6 x7 x8, (∀ x ∈ items, ∃ b : List Bool, x = .str (pathS b) ∧ b.length ≤ 7) ∧ ρ = [some (.ref a), some (.ref pr), some (.int wd), some (.list (is.map insD)), some (.str (pathS bs)), none, x6, x7, x8] ∧ Ex μ2 μ') ?_ ?_ _ _ _ ⟨none, none, none, ?_, rfl, Ex.refl μ2⟩
    · rintro ρ μ3 ⟨x6, x7, x8, _, rfl, e⟩
      refine ⟨trivial, ?_⟩
      repeat array_get_dec
      refine r_methQ (e.at hpr2) rfl ?_
      repeat array_get_dec
      refine spRowsOf (e.at hpr2) ?_
      repeat array_get_dec
      refine s_eqL (rows_val hP hl hwd.2) ?_
      repeat array_get_dec
      refine r_methQ (e.at hpr2) rfl ?_
      repeat array_get_dec
      refine spSizeOf (e.at hpr2) ?_
      repeat array_get_dec
      rw [decide_eq_true rfl]
      obtain ⟨u, v, hp⟩ := h2
      exact K μ3 ⟨u, v, e.at hp⟩ (fun c hc hn => by
        have z := f2 c hc
        rw [← z]
        exact e c (by rw [z]; exact hn))
    · rintro x xs ρ μ3 N hN ⟨x6, x7, x8, hx, rfl, e⟩
      refine ⟨trivial, ?_⟩
      obtain ⟨b, rfl, hb⟩ := hx x (by simp)
      have hx2 : ∀ y ∈ xs, ∃ b : List Bool, y = .str (pathS b) ∧ b.length ≤ 7 := fun y hy => hx y (by simp [hy])
      have L0 := liv_begin hP hl hwd.1
      obtain ⟨m, L⟩ := go_liv (bs := b) (u := 0) hP hl L0
      have ro := res_ok (s := (resP is wd b).1) L hwd
      repeat array_get_dec
      refine spDue hP hl hwd (by omega) (fun hu μ4 e4 => ?_) (fun hu q1 μ4 hq1 hq1' e4 => ?_)
      · repeat array_get_dec
        refine spTold (e4.at (e.at hpr2)) hP hl hwd (by omega) (fun _ μ5 e5 => ?_) (fun hn => absurd hu hn)
        repeat (first|refine f_reprLeft ?_|array_get_dec)
        rw [decide_eq_true rfl]
        repeat array_get_dec
        exact hN _ _ ⟨_, _, _, hx2, rfl, e.trans (e4.trans e5)⟩
      · repeat array_get_dec
        refine spTold (e4.at (e.at hpr2)) hP hl hwd (by omega) (fun hn => absurd hn hu) (fun _ q2 z2 μ5 hq2 hz2 hqz hq2' hz2' e5 => ?_)
        have n12 : q1 ≠ q2 := fresh_ne hq2 hq1'
        have n1z : q1 ≠ z2 := fresh_ne hz2 hq1'
        have hq15 := e5.at hq1'
        repeat array_get_dec
        refine f_reprRes ro (derefT_told hq2' hz2') ?_
        repeat array_get_dec
        refine f_reprRes ro (derefT_due hq15) ?_
        repeat array_get_dec
        rw [decide_eq_true rfl]
        obtain ⟨ps, hps, hsh⟩ := res_val ro.1 ro.2.2.2 ro.2.1
        repeat array_get_dec
        refine s_neTS (ps := ps) (by rw [derefT_told hq2' hz2']; exact hps) hsh (by decide +kernel) ?_
        repeat (first|refine r_bmA hq2' ?_|array_get_dec)
        refine r_app hq2' (by have tl := L.tl; rw [List.length_map]; show List.length (goP is wd b 100 _ 0).1.t < _; omega) ?_
        repeat (first|refine r_bmC ((mset_ne hqz.symm).trans hz2') ?_|array_get_dec)
        refine r_clr ((mset_ne hqz.symm).trans hz2') ?_
        repeat (first|refine r_kcall ?_|array_get_dec)
        have e6 : Ex μ2 (mset (mset μ5 q2 (.lst ((resP is wd b).1.t.map D.int ++ [.non]))) z2 (.lst [])) := fun c hc => by
          have h0 := (e.trans e4) c hc
          have hc4 : μ4 c ≠ none := by rw [h0]; exact hc
          have nz : c ≠ z2 := fun z => hc4 (z ▸ hz2)
          have nq : c ≠ q2 := fun z => hc4 (z ▸ hq2)
          rw [mset_ne nz, mset_ne nq, e5 c hc4, h0]
        have hq16 : mset (mset μ5 q2 (.lst ((resP is wd b).1.t.map D.int ++ [.non]))) z2 (.lst []) q1 = some (.lst ((resP is wd b).1.t.map .int)) := (mset_ne n1z).trans ((mset_ne n12).trans hq15)
        generalize mset (mset μ5 q2 _) z2 _ = μ6 at e6 hq16 ⊢
        refine spGone (bs := b) (pr := pr) (e6.at hpr2) hP hl hwd (by omega) (fun hn => absurd hn hu) (fun _ q3 z3 μ7 hq3 hz3 hqz3 hq3' hz3' e7 => ?_)
        repeat array_get_dec
        refine f_reprRes ro (derefT_told hq3' hz3') ?_
        repeat array_get_dec
        refine f_reprRes ro (derefT_due (e7.at hq16)) ?_
        repeat array_get_dec
        rw [decide_eq_true rfl]
        repeat array_get_dec
        exact hN _ _ ⟨_, _, _, hx2, rfl, e6.trans e7⟩
    · intro x hx
      simp only [List.mem_cons, List.not_mem_nil, or_false] at hx
      rcases hx with rfl | rfl | rfl
      · exact ⟨bs, rfl, by omega⟩
      · exact ⟨List.replicate bs.length false, rfl, by rw [List.length_replicate]; omega⟩
      · exact ⟨bs.take 1, rfl, by rw [List.length_take]; omega⟩
  · rintro x xs acc μ' N hN ⟨bs, rfl, hx, hbl, h2, f2⟩
    refine ⟨trivial, ?_⟩
    obtain ⟨i, rfl⟩ := hx x (by simp)
    rw [List.length_cons] at hbl
    repeat array_get_dec
    refine spTake h2 f2 (by decide) (by decide) (fun r μ3 hr0 hr1 h3 f3 => ?_)
    have hr : ∃ b : Bool, atI (Str.ofString "ey").cps.toList r = some (if b then 121 else 101) := by
      rcases (show r = 0 ∨ r = 1 by omega) with rfl | rfl
      · exact ⟨false, by decide⟩
      · exact ⟨true, by decide⟩
    obtain ⟨b, hb⟩ := hr
    refine u_str (by decide) hb ?_
    refine ⟨by rw [List.length_map, List.length_map]; omega, hN _ _ ⟨bs ++ [b], ?_, fun y hy => hx y (by simp [hy]), by simp; omega, h3, f3⟩⟩
    rw [List.map_append, List.map_append]
    rfl
end Fk
end
section
set_option maxHeartbeats 4000000
namespace Fk
open PySem PySem.Spec PyProof.Rows L2
theorem plainX (ns : List Int) : ns.length ≤ 63 → (∀ k ∈ ns, Builtin.Int.intBits k ≤ 1048576) → xN T 14 66 [.ro (ns.map D.int)] noM (fun r _ => r = .bl true) noX := by
  intro hn _
  refine k_call (n := 13) (fd := d66) rfl rfl ?_
  show xSs T (xN T 13) b66 _ [some (.ro (ns.map D.int)), none, none, none, none, none, none] noM
  unfold b66
  have ee : Str.ofString "" = pathS [] := by decide
  repeat array_get_dec
  refine ⟨by split <;> (try split) <;> omega, by split <;> (try split) <;> omega, ?_⟩
  refine for_inv (fun items ρ μ' => ∃ x1 x2 x3 x4 x5 x6, (∀ x ∈ items, ∃ i : Int, x = .int i ∧ 0 ≤ i) ∧ ρ = [some (.ro (ns.map D.int)), x1, x2, x3, x4, x5, x6]) ?_ ?_ _ _ _ ⟨none, none, none, none, none, none, ?_, rfl⟩
  · rintro ρ μ' ⟨x1, x2, x3, x4, x5, x6, _, rfl⟩
    refine ⟨trivial, ?_⟩
    repeat array_get_dec
    rfl
  · rintro x xs ρ μ' N hN ⟨x1, x2, x3, x4, x5, x6, hx, rfl⟩
    refine ⟨trivial, ?_⟩
    obtain ⟨i, rfl, hi⟩ := hx x (by simp)
    repeat array_get_dec
    refine spPot (fun x hx => ?_) hi (fun a p q ha => ?_)
    · obtain ⟨j, _, rfl⟩ := List.mem_map.mp hx
      exact ⟨j, rfl⟩
    have h1 : Pot (mset μ' a (.lst [.int p, .int q])) a := ⟨p, q, mset_same⟩
    generalize mset μ' a (.lst [.int p, .int q]) = μ1 at h1 ⊢
    repeat array_get_dec
    refine spPlan h1 (fun s pw lp is μ2 hs hs2 hp0 hpa hp hP hl h2 hE => ?_)
    repeat array_get_dec
    refine w_fzL rfl hp ?_
    have h3 : Pot (mdel μ2 pw) a := by
      obtain ⟨u, v, h⟩ := h2
      exact ⟨u, v, (mdel_ne hpa.symm).trans h⟩
    generalize mdel μ2 pw = μ3 at h3 ⊢
    repeat array_get_dec
    refine f_list sq_list ?_
    repeat array_get_dec
    refine spProgram hP hl (by omega) hs2 (fun pr μ4 hpr0 hpr e4 => ?_)
    have h4 := h3.ex e4
    have hne : pr ≠ a := fun z => by
      obtain ⟨u, v, h⟩ := h3
      rw [z, h] at hpr0
      cases hpr0
    repeat array_get_dec
    refine ⟨by decide, by decide, ?_⟩
    refine for_inv (fun items ρ μ' => ∃ x6, ρ = [some (.ro (ns.map D.int)), some (.int i), some (.ref a), some (.int s), some (.list (is.map insD)), some (.ref pr), x6] ∧ Pot μ' a ∧ μ' pr = some (prO s (is.map insD))) ?_ ?_ _ _ _ ⟨_, rfl, h4, hpr⟩
    · rintro ρ μ5 ⟨x6, rfl, h5, hpr5⟩
      refine ⟨trivial, ?_⟩
      have L0 := liv_begin hP hl (by omega)
      obtain ⟨m, L⟩ := go_liv (bs := []) (u := 0) hP hl L0
      have ro := res_ok (s := (resP is s []).1) L ⟨by omega, hs2⟩
      repeat array_get_dec
      rw [ee]
      refine spGone (bs := []) hpr5 hP hl ⟨by omega, hs2⟩ (Nat.zero_le _) (fun hn => absurd hn (Nat.not_lt_zero _)) (fun _ q3 z3 μ7 hq3 hz3 hqz3 hq3' hz3' e7 => ?_)
      repeat array_get_dec
      refine f_reprRes ro (derefT_told hq3' hz3') ?_
      repeat array_get_dec
      refine spDue (bs := []) hP hl ⟨by omega, hs2⟩ (Nat.zero_le _) (fun hn => absurd hn (Nat.not_lt_zero _)) (fun _ q1 μ8 hq1 hq1' e8 => ?_)
      repeat array_get_dec
      refine f_reprRes ro (derefT_due hq1') ?_
      repeat array_get_dec
      rw [decide_eq_true rfl]
      repeat array_get_dec
      exact hN _ _ ⟨_, _, _, _, _, _, fun y hy => hx y (by simp [hy]), rfl⟩
    · rintro x2 xs2 ρ μ5 N2 hN2 ⟨x6, rfl, h5, hpr5⟩
      refine ⟨trivial, ?_⟩
      repeat array_get_dec
      refine spRight h5 hpr5 hne hP hl ⟨by omega, hs2⟩ (fun μ6 h6 e6 => ?_)
      repeat array_get_dec
      exact hN2 _ _ ⟨_, rfl, h6, e6.at hpr5 hne⟩
  · intro x hx
    obtain ⟨i, _, rfl⟩ := List.mem_map.mp hx
    exact ⟨i, rfl, by omega⟩
theorem plain (ns : List Int) (h : ns.length ≤ 63) (h2 : ∀ k ∈ ns, Builtin.Int.intBits k ≤ 1048576) : callN T 14 66 [.ro (ns.map D.int)] noM (fun r _ => r = .bl true) noX := xN_eq (plainX ns h h2)
end Fk
end
set_option maxHeartbeats 0
theorem PySem.Challenge.cw_forkthrift_k81_whole_paths_gone_alone_holds : PySem.Challenge.rw_forkthrift_k81_whole_paths_gone_alone.Holds :=
  Fk.fin Fk.fdsOk Fk.xdsOk Fk.plain Fk.run
