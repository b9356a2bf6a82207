import PyProof.Rows.All
import Wide.All
import OpenK.AllK
import Wide.FinOn
import HandS.Base
import HandS.Call
import HandS.List
import HandS.Words
import HandS.HeadHook1
import HandS.Flow
import HandS.Exc
import HandS.ExcOwn
import HandS.TryOnly
import HandS.WordsExc
import HandS.Defaults
import HandS.Comp
import HandS.Iter
import HandS.TupAny
import HandS.Wide
import HandS.Style
import HandS.IsInst
import HandS.SortInts
import HandS.TupMul
import PyProof.ConsumeWalk
import PyProof.ConsumeS
import KE.GoesMore
import KE.GoesEnum
import HandS.More
import HandS.Conv
import PyProof.SumWalkG
import PyProof.WalkInts
import PyProof.WalksMore
import HandS.Small
import HandS.Deep
import HandS.CallSlots
import HandS.Head0
import HandS.Head1
import HandS.Head2
import HandS.HeadEnd
import HandS.HeadHook2
import HandS.RaiseMore
import PySem.Challenge.RW_coinmaster_k89_whole_balances_of_savings
set_option Elab.async false
set_option linter.all false
set_option maxRecDepth 100000
set_option maxHeartbeats 0
/-! Dn: data by value over the hand layer. Part 1: data, worlds, the relation. -/
namespace Dn
open PySem PySem.Spec PyProof.Rows L2

/-- data: tuples, and lists that are never changed, by value; obj: a thing that may change, by its place in the store -/
inductive D where
  | non | bl (b : Bool) | int (i : Int) | str (x : Str)
  | tup (xs : List D) | lst (xs : List D) | scr (xs : List D)
  | obj (i : Nat) | gl (x : Str) | ty (n : String)
/-- a thing that may change -/
inductive O where
  | lst (xs : List D)
  | dK (kvs : List (Key × D))
  | dT (kvs : List (List Key × D))
  | ins (c : Str) (fs : List (Str × D))
abbrev Env := List (Option D)
abbrev Store := List O
/-- the addresses of the store's things; those of lists that are being made -/
structure Wd where
  io : List Addr
  bz : List Addr

def KT (K : PySem.W.Frag) (a : Addr) (xs : List V) : Prop :=
  ∃ (o : Obj) (its : Array Value) (n : Nat), K.lookup a = some o ∧ o.cls = .type "tuple" ∧ o.data = .seq its n ∧ its.size ≤ sizeLine ∧ Vals xs its.toList
def KL (K : PySem.W.Frag) (a : Addr) (xs : List V) : Prop :=
  ∃ (o : Obj) (its : Array Value) (n : Nat), K.lookup a = some o ∧ o.cls = .type "list" ∧ o.dict = none ∧ o.data = .seq its n ∧ its.size ≤ sizeLine ∧ Vals xs its.toList
def StT (K : PySem.W.Frag) (w : Wd) (H : Hp) (a : Addr) (xs : List V) : Prop := (Rd H a (.tup xs) ∧ a ∉ w.io ∧ a ∉ w.bz) ∨ KT K a xs
def StL (w : Wd) (H : Hp) (a : Addr) (xs : List V) : Prop := H a = some (.lst xs) ∧ a ∉ w.io ∧ a ∉ w.bz
/-- a list that nobody may write: the script, a list of the module's top -/
def StF (K : PySem.W.Frag) (w : Wd) (H : Hp) (a : Addr) (xs : List V) : Prop := ((∃ o, H a = some (.frz o (.lst xs))) ∧ a ∉ w.io ∧ a ∉ w.bz) ∨ KL K a xs
theorem StT.sq {K : PySem.W.Frag} {w : Wd} {H : Hp} {a : Addr} {xs : List V} (h : StT K w H a xs) : SqT K H a xs := by
  rcases h with ⟨h, _⟩ | h
  · exact .inl h
  · exact .inr h
theorem StL.sq {K : PySem.W.Frag} {w : Wd} {H : Hp} {a : Addr} {xs : List V} (h : StL w H a xs) : SqL K H a xs := .inl (.inl h.1)
theorem StF.sq {K : PySem.W.Frag} {w : Wd} {H : Hp} {a : Addr} {xs : List V} (h : StF K w H a xs) : SqL K H a xs := by
  rcases h with ⟨h, _⟩ | h
  · exact .inl (.inr h)
  · exact .inr h
mutual
inductive RepV (K : PySem.W.Frag) (w : Wd) (H : Hp) : V → D → Prop
  | non : RepV K w H .non .non
  | bl (b : Bool) : RepV K w H (.bl b) (.bl b)
  | int (i : Int) : RepV K w H (.int i) (.int i)
  | str (x : Str) : RepV K w H (.str x) (.str x)
  | tup {a : Addr} {xs : List V} {ds : List D} : StT K w H a xs → RepVs K w H xs ds → RepV K w H (.ref a) (.tup ds)
  | lst {a : Addr} {xs : List V} {ds : List D} : StL w H a xs → RepVs K w H xs ds → RepV K w H (.ref a) (.lst ds)
  | scr {a : Addr} {xs : List V} {ds : List D} : StF K w H a xs → RepVs K w H xs ds → RepV K w H (.ref a) (.scr ds)
  | obj {i : Nat} {a : Addr} : w.io[i]? = some a → RepV K w H (.ref a) (.obj i)
  | gl (x : Str) : RepV K w H (.ref (He.ga K x)) (.gl x)
  | ty (n : String) : RepV K w H (.ty n) (.ty n)
inductive RepVs (K : PySem.W.Frag) (w : Wd) (H : Hp) : List V → List D → Prop
  | nil : RepVs K w H [] []
  | cons {v : V} {vs : List V} {d : D} {ds : List D} : RepV K w H v d → RepVs K w H vs ds → RepVs K w H (v :: vs) (d :: ds)
end
/-- values stay what they are -/
structure Mv (w : Wd) (H : Hp) (w' : Wd) (H' : Hp) : Prop where
  pre : ∃ t, w'.io = w.io ++ t
  keep : ∀ a o, H a = some o → a ∉ w.io → a ∉ w.bz → H' a = some o ∧ a ∉ w'.io ∧ a ∉ w'.bz
/-- what stands, stands -/
structure Ext (w : Wd) (H : Hp) (w' : Wd) (H' : Hp) : Prop extends Mv w H w' H' where
  bz : ∀ a ∈ w.bz, a ∈ w'.bz ∧ H' a = H a
section
variable {K : PySem.W.Frag} {w w1 w2 w' : Wd} {H H1 H2 H' : Hp} {v : V} {d : D} {vs xs : List V} {ds : List D} {a p : Addr} {o : HO}
theorem Ext.refl : Ext w H w H := ⟨⟨⟨[], by simp⟩, fun _ _ h n b => ⟨h, n, b⟩⟩, fun _ h => ⟨h, rfl⟩⟩
theorem Ext.trans (a : Ext w H w1 H1) (b : Ext w1 H1 w2 H2) : Ext w H w2 H2 := by
  obtain ⟨t, e⟩ := a.pre
  obtain ⟨u, f⟩ := b.pre
  exact ⟨⟨⟨t ++ u, by rw [f, e, List.append_assoc]⟩, fun c o h n m => let ⟨h1, n1, m1⟩ := a.keep c o h n m; b.keep c o h1 n1 m1⟩,
    fun c hc => let ⟨h1, e1⟩ := a.bz c hc; let ⟨h2, e2⟩ := b.bz c h1; ⟨h2, e2.trans e1⟩⟩
theorem Mv.get (e : Mv w H w' H') {i : Nat} (h : w.io[i]? = some a) : w'.io[i]? = some a := by
  obtain ⟨t, f⟩ := e.pre
  rw [f, List.getElem?_append_left (List.getElem?_eq_some_iff.mp h).1]
  exact h
theorem Rd.ext {u : HO} (e : Mv w H w' H') (h : Rd H a u) (n : a ∉ w.io) (b : a ∉ w.bz) : Rd H' a u ∧ a ∉ w'.io ∧ a ∉ w'.bz := by
  rcases h with h | ⟨o, h⟩
  · exact ⟨.inl (e.keep _ _ h n b).1, (e.keep _ _ h n b).2⟩
  · exact ⟨.inr ⟨o, (e.keep _ _ h n b).1⟩, (e.keep _ _ h n b).2⟩
theorem StT.mv (e : Mv w H w' H') (h : StT K w H a xs) : StT K w' H' a xs := by
  rcases h with ⟨h, n, b⟩ | h
  · exact .inl (Rd.ext e h n b)
  · exact .inr h
theorem StL.mv (e : Mv w H w' H') (h : StL w H a xs) : StL w' H' a xs := e.keep _ _ h.1 h.2.1 h.2.2
theorem StF.mv (e : Mv w H w' H') (h : StF K w H a xs) : StF K w' H' a xs := by
  rcases h with ⟨⟨o, h⟩, n, b⟩ | h
  · exact .inl ⟨⟨o, (e.keep _ _ h n b).1⟩, (e.keep _ _ h n b).2⟩
  · exact .inr h
theorem StT.ext (e : Ext w H w' H') (h : StT K w H a xs) : StT K w' H' a xs := h.mv e.toMv
theorem StL.ext (e : Ext w H w' H') (h : StL w H a xs) : StL w' H' a xs := h.mv e.toMv
theorem StF.ext (e : Ext w H w' H') (h : StF K w H a xs) : StF K w' H' a xs := h.mv e.toMv
end
section
variable {K : PySem.W.Frag} {w w' : Wd} {H H' : Hp}
mutual
theorem RepV.mv (e : Mv w H w' H') : ∀ {v : V} {d : D}, RepV K w H v d → RepV K w' H' v d
  | _, _, .non => .non
  | _, _, .bl b => .bl b
  | _, _, .int i => .int i
  | _, _, .str x => .str x
  | _, _, .tup h hs => .tup (h.mv e) (RepVs.mv e hs)
  | _, _, .lst h hs => .lst (h.mv e) (RepVs.mv e hs)
  | _, _, .scr h hs => .scr (h.mv e) (RepVs.mv e hs)
  | _, _, .obj h => .obj (e.get h)
  | _, _, .gl x => .gl x
  | _, _, .ty n => .ty n
theorem RepVs.mv (e : Mv w H w' H') : ∀ {vs : List V} {ds : List D}, RepVs K w H vs ds → RepVs K w' H' vs ds
  | _, _, .nil => .nil
  | _, _, .cons h hs => .cons (RepV.mv e h) (RepVs.mv e hs)
end
theorem RepV.ext (e : Ext w H w' H') {v : V} {d : D} (h : RepV K w H v d) : RepV K w' H' v d := h.mv e.toMv
theorem RepVs.ext (e : Ext w H w' H') {vs : List V} {ds : List D} (h : RepVs K w H vs ds) : RepVs K w' H' vs ds := h.mv e.toMv
end
section
variable {K : PySem.W.Frag} {w w1 w2 w' : Wd} {H H1 H2 H' : Hp} {v : V} {d : D} {vs xs ys : List V} {ds es : List D} {a p : Addr} {o : HO}
theorem RepVs.length : ∀ {vs : List V} {ds : List D}, RepVs K w H vs ds → vs.length = ds.length
  | _, _, .nil => rfl
  | _, _, .cons _ h => by rw [List.length_cons, List.length_cons, RepVs.length h]
theorem RepVs.get : ∀ {vs : List V} {ds : List D} {i : Nat} {d : D}, RepVs K w H vs ds → ds[i]? = some d → ∃ v, vs[i]? = some v ∧ RepV K w H v d
  | _, _, _, _, .nil, e => by simp at e
  | _, _, 0, _, .cons r _, e => by simp at e; subst e; exact ⟨_, rfl, r⟩
  | _, _, i + 1, d, .cons _ t, e => by
    obtain ⟨u, h1, h2⟩ := RepVs.get (i := i) (d := d) t (by simpa using e)
    exact ⟨u, by simpa using h1, h2⟩
theorem RepVs.getV : ∀ {vs : List V} {ds : List D} {i : Nat} {v : V}, RepVs K w H vs ds → vs[i]? = some v → ∃ d, ds[i]? = some d ∧ RepV K w H v d
  | _, _, _, _, .nil, e => by simp at e
  | _, _, 0, _, .cons r _, e => by simp at e; subst e; exact ⟨_, rfl, r⟩
  | _, _, i + 1, d, .cons _ t, e => by
    obtain ⟨u, h1, h2⟩ := RepVs.getV (i := i) (v := d) t (by simpa using e)
    exact ⟨u, by simpa using h1, h2⟩
theorem RepVs.append : ∀ {vs xs : List V} {ds es : List D}, RepVs K w H vs ds → RepVs K w H xs es → RepVs K w H (vs ++ xs) (ds ++ es)
  | _, _, _, _, .nil, s => s
  | _, _, _, _, .cons r t, s => .cons r (RepVs.append t s)
theorem RepVs.take : ∀ {vs : List V} {ds : List D} (n : Nat), RepVs K w H vs ds → RepVs K w H (vs.take n) (ds.take n)
  | _, _, 0, _ => .nil
  | _, _, _ + 1, .nil => .nil
  | _, _, n + 1, .cons r t => .cons r (RepVs.take n t)
theorem RepVs.drop : ∀ {vs : List V} {ds : List D} (n : Nat), RepVs K w H vs ds → RepVs K w H (vs.drop n) (ds.drop n)
  | _, _, 0, r => r
  | _, _, _ + 1, .nil => .nil
  | _, _, n + 1, .cons _ t => RepVs.drop n t
theorem RepVs.set (r : RepV K w H v d) : ∀ {vs : List V} {ds : List D} (i : Nat), RepVs K w H vs ds → RepVs K w H (vs.set i v) (ds.set i d)
  | _, _, _, .nil => .nil
  | _, _, 0, .cons _ t => .cons r t
  | _, _, i + 1, .cons q t => .cons q (RepVs.set r i t)
theorem RepVs.reverse : ∀ {vs : List V} {ds : List D}, RepVs K w H vs ds → RepVs K w H vs.reverse ds.reverse
  | _, _, .nil => .nil
  | _, _, .cons r t => by rw [List.reverse_cons, List.reverse_cons]; exact (RepVs.reverse t).append (.cons r .nil)
theorem RepVs.one {v : V} {d : D} (h : RepV K w H v d) : RepVs K w H [v] [d] := .cons h .nil
/-- named values -/
def RepF {κ : Type} (K : PySem.W.Frag) (w : Wd) (H : Hp) (xs : List (κ × V)) (fs : List (κ × D)) : Prop := xs.map (·.1) = fs.map (·.1) ∧ RepVs K w H (xs.map (·.2)) (fs.map (·.2))
theorem RepF.mv {κ : Type} {xs : List (κ × V)} {fs : List (κ × D)} (e : Mv w H w' H') (h : RepF K w H xs fs) : RepF K w' H' xs fs := ⟨h.1, h.2.mv e⟩
theorem RepF.ext {κ : Type} {xs : List (κ × V)} {fs : List (κ × D)} (e : Ext w H w' H') (h : RepF K w H xs fs) : RepF K w' H' xs fs := h.mv e.toMv
def RepO (K : PySem.W.Frag) (w : Wd) (H : Hp) (a : Addr) : O → Prop
  | .lst ds => ∃ xs, H a = some (.lst xs) ∧ RepVs K w H xs ds
  | .dK fs => ∃ xs, H a = some (.dK xs) ∧ RepF K w H xs fs
  | .dT fs => ∃ xs, H a = some (.dT xs) ∧ RepF K w H xs fs
  | .ins c fs => ∃ dx xs, H a = some (.ins (He.ga K c) dx xs) ∧ RepF K w H xs fs
theorem RepO.some {o : O} (h : RepO K w H a o) : ∃ u, H a = some u := by
  cases o with
  | lst ds => obtain ⟨xs, e, _⟩ := h; exact ⟨_, e⟩
  | dK ds => obtain ⟨xs, e, _⟩ := h; exact ⟨_, e⟩
  | dT ds => obtain ⟨xs, e, _⟩ := h; exact ⟨_, e⟩
  | ins c ds => obtain ⟨_, xs, e, _⟩ := h; exact ⟨_, e⟩
theorem RepO.mv {o : O} (e : Mv w H w' H') (k : H' a = H a) (h : RepO K w H a o) : RepO K w' H' a o := by
  cases o with
  | lst ds => obtain ⟨xs, f, r⟩ := h; exact ⟨xs, k.trans f, r.mv e⟩
  | dK ds => obtain ⟨xs, f, r⟩ := h; exact ⟨xs, k.trans f, r.mv e⟩
  | dT ds => obtain ⟨xs, f, r⟩ := h; exact ⟨xs, k.trans f, r.mv e⟩
  | ins c ds => obtain ⟨dx, xs, f, r⟩ := h; exact ⟨dx, xs, k.trans f, r.mv e⟩
theorem RepO.ext {o : O} (e : Ext w H w' H') (k : H' a = H a) (h : RepO K w H a o) : RepO K w' H' a o := h.mv e.toMv k
structure HeapRel (K : PySem.W.Frag) (w : Wd) (H : Hp) (η : Store) : Prop where
  len : w.io.length = η.length
  nd : w.io.Nodup
  at_ : ∀ (i : Nat) (a : Addr) (o : O), w.io[i]? = some a → η[i]? = some o → RepO K w H a o
  bz : ∀ a ∈ w.bz, a ∉ w.io ∧ ∃ u, H a = some u
theorem HeapRel.trk {η : Store} (h : HeapRel K w H η) (ha : a ∈ w.io) : ∃ u, H a = some u := by
  obtain ⟨i, hi, e⟩ := List.getElem_of_mem ha
  have e1 : w.io[i]? = some a := by rw [List.getElem?_eq_getElem hi, e]
  have hi2 : i < η.length := h.len ▸ hi
  exact (h.at_ i a _ e1 (List.getElem?_eq_getElem hi2)).some
theorem HeapRel.new {η : Store} (h : HeapRel K w H η) (hp : H p = none) : p ∉ w.io ∧ p ∉ w.bz := by
  refine ⟨fun q => ?_, fun q => ?_⟩
  · obtain ⟨u, e⟩ := h.trk q; rw [hp] at e; cases e
  · obtain ⟨_, u, e⟩ := h.bz p q; rw [hp] at e; cases e
/-- a new object that never changes -/
theorem Mv.laid (hp : H p = none) : Mv w H w (upd H p o) := ⟨⟨[], by simp⟩, fun b u h m n => ⟨by rw [upd_ne (ne_of_none h hp)]; exact h, m, n⟩⟩
theorem Ext.laid {η : Store} (hp : H p = none) (hr : HeapRel K w H η) : Ext w H w (upd H p o) :=
  ⟨Mv.laid hp, fun b hb => ⟨hb, by obtain ⟨_, u, f⟩ := hr.bz b hb; rw [upd_ne (ne_of_none f hp)]⟩⟩
theorem HeapRel.laid {η : Store} (h : HeapRel K w H η) (hp : H p = none) : HeapRel K w (upd H p o) η := by
  have e : Ext w H w (upd H p o) := Ext.laid hp h
  refine ⟨h.len, h.nd, fun i a ob ha ho => ?_, fun b hb => ?_⟩
  · refine (h.at_ i a ob ha ho).ext e (upd_ne fun q => ?_)
    subst q
    exact (h.new hp).1 (List.mem_of_getElem? ha)
  · obtain ⟨n, u, f⟩ := h.bz b hb
    exact ⟨n, u, by rw [upd_ne (ne_of_none f hp)]; exact f⟩
theorem StT.of_new {η : Store} (h : HeapRel K w H η) (hp : H p = none) : StT K w (upd H p (.tup xs)) p xs := .inl ⟨.inl upd_same, (h.new hp).1, (h.new hp).2⟩
theorem StL.of_new {η : Store} (h : HeapRel K w H η) (hp : H p = none) : StL w (upd H p (.lst xs)) p xs := ⟨upd_same, (h.new hp).1, (h.new hp).2⟩
/-- a new thing that may change -/
abbrev Wd.more (w : Wd) (p : Addr) : Wd := ⟨w.io ++ [p], w.bz⟩
theorem Ext.more {η : Store} (hp : H p = none) (hr : HeapRel K w H η) : Ext w H (w.more p) (upd H p o) :=
  ⟨⟨⟨[p], rfl⟩, fun b u h m n => ⟨by rw [upd_ne (ne_of_none h hp)]; exact h, (by
    intro q
    rcases List.mem_append.mp q with q | q
    · exact m q
    · have e : b = p := by simpa using q
      rw [e, hp] at h; cases h), n⟩⟩, fun b hb => ⟨hb, by obtain ⟨_, u, f⟩ := hr.bz b hb; rw [upd_ne (ne_of_none f hp)]⟩⟩
theorem HeapRel.more {η : Store} {ob : O} (h : HeapRel K w H η) (hp : H p = none) (r : RepO K (w.more p) (upd H p o) p ob) : HeapRel K (w.more p) (upd H p o) (η ++ [ob]) := by
  have e : Ext w H (w.more p) (upd H p o) := Ext.more hp h
  have hn := h.new hp
  refine ⟨by simp [h.len], ?_, fun i a ob' ha ho => ?_, fun b hb => ?_⟩
  · exact List.nodup_append.mpr ⟨h.nd, by simp, fun a ha b hb => by
      have e : b = p := by simpa using hb
      subst e
      exact fun q => hn.1 (q ▸ ha)⟩
  · by_cases hi : i < w.io.length
    · rw [List.getElem?_append_left hi] at ha
      rw [List.getElem?_append_left (h.len ▸ hi)] at ho
      refine (h.at_ i a ob' ha ho).ext e (upd_ne fun q => ?_)
      subst q
      exact hn.1 (List.mem_of_getElem? ha)
    · have hi' : i = w.io.length := by
        have := (List.getElem?_eq_some_iff.mp ha).1
        simp at this; omega
      subst hi'
      rw [List.getElem?_append_right (Nat.le_refl _)] at ha
      rw [h.len, List.getElem?_append_right (Nat.le_refl _)] at ho
      simp at ha ho
      subst ha ho
      exact r
  · obtain ⟨n, u, f⟩ := h.bz b hb
    refine ⟨fun q => ?_, u, by rw [upd_ne (ne_of_none f hp)]; exact f⟩
    rcases List.mem_append.mp q with q | q
    · exact n q
    · have e : b = p := by simpa using q
      rw [e] at hb
      exact hn.2 hb
/-- a thing changes -/
theorem ne_mem {b : Addr} {i : Nat} (ha : w.io[i]? = some a) (m : b ∉ w.io) : b ≠ a := fun q => by
  subst q
  exact m (List.mem_of_getElem? ha)
theorem ix_nd {α : Type} {N : List α} (hN : N.Nodup) {i j : Nat} {x : α} (a : N[i]? = some x) (b : N[j]? = some x) : i = j := by
  obtain ⟨h1, e1⟩ := List.getElem?_eq_some_iff.mp a
  obtain ⟨h2, e2⟩ := List.getElem?_eq_some_iff.mp b
  exact (List.getElem_inj hN).mp (e1.trans e2.symm)
theorem Ext.write {i : Nat} {η : Store} (ha : w.io[i]? = some a) (hr : HeapRel K w H η) : Ext w H w (upd H a o) :=
  ⟨⟨⟨[], by simp⟩, fun b u h m n => ⟨by rw [upd_ne (ne_mem ha m)]; exact h, m, n⟩⟩, fun b hb => ⟨hb, by rw [upd_ne (ne_mem ha (hr.bz b hb).1)]⟩⟩
theorem HeapRel.write {η : Store} {ob : O} {i : Nat} (h : HeapRel K w H η) (ha : w.io[i]? = some a) (r : RepO K w (upd H a o) a ob) : HeapRel K w (upd H a o) (η.set i ob) := by
  have e : Ext w H w (upd H a o) := Ext.write ha h
  refine ⟨by simp [h.len], h.nd, fun j b ob' hb ho => ?_, fun b hb => ?_⟩
  · by_cases hj : j = i
    · subst hj
      rw [ha] at hb; cases hb
      have hl : j < η.length := h.len ▸ (List.getElem?_eq_some_iff.mp ha).1
      rw [List.getElem?_set_self hl] at ho
      cases ho
      exact r
    · rw [List.getElem?_set_ne (Ne.symm hj)] at ho
      refine (h.at_ j b ob' hb ho).ext e (upd_ne fun q => hj ?_)
      subst q
      exact ix_nd h.nd hb ha
  · obtain ⟨n, u, f⟩ := h.bz b hb
    exact ⟨n, u, by rw [upd_ne (ne_mem ha n)]; exact f⟩
structure EnvRel (K : PySem.W.Frag) (w : Wd) (σ : L2.St) (H : Hp) (ρ : Env) : Prop where
  len : ρ.length = σ.length
  at_ : ∀ (i : Nat) (d : D), ρ[i]? = some (some d) → ∃ v, σ[i]? = some (some v) ∧ RepV K w H v d
theorem EnvRel.mv {σ : L2.St} {ρ : Env} (e : Mv w H w' H') (h : EnvRel K w σ H ρ) : EnvRel K w' σ H' ρ :=
  ⟨h.len, fun i d q => let ⟨v, a, b⟩ := h.at_ i d q; ⟨v, a, b.mv e⟩⟩
theorem EnvRel.ext {σ : L2.St} {ρ : Env} (e : Ext w H w' H') (h : EnvRel K w σ H ρ) : EnvRel K w' σ H' ρ :=
  ⟨h.len, fun i d q => let ⟨v, a, b⟩ := h.at_ i d q; ⟨v, a, b.ext e⟩⟩
theorem EnvRel.set {σ : L2.St} {ρ : Env} {i : Nat} (h : EnvRel K w σ H ρ) (r : RepV K w H v d) : EnvRel K w (σ.set i (some v)) H (ρ.set i (some d)) := by
  refine ⟨by simp [h.len], fun j e q => ?_⟩
  by_cases hj : j = i
  · subst hj
    by_cases hl : j < ρ.length
    · rw [List.getElem?_set_self hl] at q
      cases q
      exact ⟨v, List.getElem?_set_self (h.len ▸ hl), r⟩
    · rw [List.getElem?_eq_none (by simpa using hl)] at q; cases q
  · rw [List.getElem?_set_ne (Ne.symm hj)] at q
    obtain ⟨u, a, b⟩ := h.at_ j e q
    exact ⟨u, by rw [List.getElem?_set_ne (Ne.symm hj)]; exact a, b⟩
structure Rel (K : PySem.W.Frag) (w : Wd) (σ : L2.St) (H : Hp) (ρ : Env) (η : Store) : Prop where
  env : EnvRel K w σ H ρ
  heap : HeapRel K w H η
end

/-! ### answers -/
/-- an error: its class by name, its fields (none: a class without own __init__) -/
structure Ex where
  cls : Str
  fs : Option (List (Str × D))
inductive R (α : Type) where
  | ok (a : α) (η : Store)
  | exc (x : Ex) (η : Store)
  | no
inductive RS where
  | nx (ρ : Env) (η : Store)
  | ret (d : D) (η : Store)
  | brk (ρ : Env) (η : Store)
  | cnt (ρ : Env) (η : Store)
  | exc (x : Ex) (ρ : Env) (η : Store)
  | no
def R.bind {α β : Type} (r : R α) (k : α → Store → R β) : R β := match r with
  | .ok a η => k a η
  | .exc x η => .exc x η
  | .no => .no
def R.bindS {α : Type} (r : R α) (ρ : Env) (k : α → Store → RS) : RS := match r with
  | .ok a η => k a η
  | .exc x η => .exc x ρ η
  | .no => .no
def liftO {α : Type} : Option (α × Store) → R α
  | some (a, η) => .ok a η
  | none => .no
@[simp] theorem R.bind_ok {α β : Type} {a : α} {η : Store} {k : α → Store → R β} : (R.ok a η).bind k = k a η := rfl
@[simp] theorem R.bind_exc {α β : Type} {x : Ex} {η : Store} {k : α → Store → R β} : (R.exc x η : R α).bind k = .exc x η := rfl
@[simp] theorem R.bind_no {α β : Type} {k : α → Store → R β} : (R.no : R α).bind k = .no := rfl
@[simp] theorem R.bindS_ok {α : Type} {a : α} {η : Store} {ρ : Env} {k : α → Store → RS} : (R.ok a η).bindS ρ k = k a η := rfl
@[simp] theorem R.bindS_exc {α : Type} {x : Ex} {η : Store} {ρ : Env} {k : α → Store → RS} : (R.exc x η : R α).bindS ρ k = .exc x ρ η := rfl
@[simp] theorem R.bindS_no {α : Type} {ρ : Env} {k : α → Store → RS} : (R.no : R α).bindS ρ k = .no := rfl
@[simp] theorem liftO_some {α : Type} {p : α × Store} : liftO (some p) = .ok p.1 p.2 := rfl
@[simp] theorem liftO_none {α : Type} : liftO (none : Option (α × Store)) = .no := rfl

def RepX (K : PySem.W.Frag) (w : Wd) (H : Hp) (c : Value) (d : Option Addr) (x : Ex) : Prop := c = .ref (He.ga K x.cls) ∧
  match x.fs with
  | none => d = none
  | some fs => ∃ a xs, d = some a ∧ H a = some (.xd xs) ∧ a ∉ w.io ∧ RepF K w H xs fs
abbrev Rp (α β : Type) := Wd → Hp → β → α → Prop
def Post {α β : Type} (K : PySem.W.Frag) (rep : Rp α β) (w : Wd) (H : Hp) (Q : β → Hp → Prop) (W : XK) : R α → Prop
  | .ok a η => ∀ v w' H', Ext w H w' H' → HeapRel K w' H' η → rep w' H' v a → Q v H'
  | .exc x η => ∀ c d w' H', Ext w H w' H' → HeapRel K w' H' η → RepX K w' H' c d x → W c d H'
  | .no => False
def PostS (K : PySem.W.Frag) (w : Wd) (H : Hp) (E : Ends) (W : WX) : RS → Prop
  | .nx ρ η => ∀ σ w' H', Ext w H w' H' → Rel K w' σ H' ρ η → E.nx σ H'
  | .ret d η => ∀ v w' H', Ext w H w' H' → HeapRel K w' H' η → RepV K w' H' v d → E.rt v H'
  | .brk ρ η => ∀ σ w' H', Ext w H w' H' → Rel K w' σ H' ρ η → E.bk σ H'
  | .cnt ρ η => ∀ σ w' H', Ext w H w' H' → Rel K w' σ H' ρ η → E.ct σ H'
  | .exc x ρ η => ∀ c d σ w' H', Ext w H w' H' → Rel K w' σ H' ρ η → RepX K w' H' c d x → W c d σ H'
  | .no => False
section
variable {α β γ δ : Type} {K : PySem.W.Frag} {w w1 : Wd} {H H1 : Hp} {rep : Rp α β} {rep2 : Rp γ δ} {Q Q' : β → Hp → Prop} {Q2 : δ → Hp → Prop} {W W' : XK} {r : R α} {k : α → Store → R γ} {E : Ends} {WS : WX}
theorem Post.weak (e : Ext w H w1 H1) (h : Post K rep w H Q W r) : Post K rep w1 H1 Q W r := by
  cases r with
  | ok a η => exact fun v w' H' e' => h v w' H' (e.trans e')
  | exc x η => exact fun c d w' H' e' => h c d w' H' (e.trans e')
  | no => exact h
theorem Post.imp (m : ∀ v H, Q v H → Q' v H) (h : Post K rep w H Q W r) : Post K rep w H Q' W r := by
  cases r with
  | ok a η => exact fun v w' H' e' hr rp => m _ _ (h v w' H' e' hr rp)
  | exc x η => exact h
  | no => exact h
theorem Post.bind (h : Post K rep2 w H Q2 W (r.bind k)) : Post K rep w H (fun v H1 => ∃ w1 a η1, Ext w H w1 H1 ∧ HeapRel K w1 H1 η1 ∧ rep w1 H1 v a ∧ Post K rep2 w1 H1 Q2 W (k a η1)) W r := by
  cases r with
  | ok a η => exact fun v w' H' e' hr rp => ⟨w', a, η, e', hr, rp, h.weak e'⟩
  | exc x η => exact h
  | no => exact h
theorem Post.lift {o : Option (α × Store)} (h : Post K rep w H Q W (liftO o)) : Post K rep w H Q W' (liftO o) := by
  cases o with
  | none => exact h
  | some p => exact h
theorem PostS.weak {r : RS} (e : Ext w H w1 H1) (h : PostS K w H E WS r) : PostS K w1 H1 E WS r := by
  cases r with
  | nx ρ η => exact fun σ w' H' e' => h σ w' H' (e.trans e')
  | brk ρ η => exact fun σ w' H' e' => h σ w' H' (e.trans e')
  | cnt ρ η => exact fun σ w' H' e' => h σ w' H' (e.trans e')
  | ret d η => exact fun v w' H' e' => h v w' H' (e.trans e')
  | exc x ρ η => exact fun c d σ w' H' e' => h c d σ w' H' (e.trans e')
  | no => exact h
theorem PostS.bind {σ : L2.St} {ρ : Env} {kS : α → Store → RS} (env : EnvRel K w σ H ρ) (h : PostS K w H E WS (r.bindS ρ kS)) :
    Post K rep w H (fun v H1 => ∃ w1 a η1, Ext w H w1 H1 ∧ Rel K w1 σ H1 ρ η1 ∧ rep w1 H1 v a ∧ PostS K w1 H1 E WS (kS a η1)) (fun c d H' => WS c d σ H') r := by
  cases r with
  | ok a η => exact fun v w' H' e' hr rp => ⟨w', a, η, e', ⟨env.ext e', hr⟩, rp, h.weak e'⟩
  | exc x η => exact fun c d w' H' e' hr rx => h c d σ w' H' e' ⟨env.ext e', hr⟩ rx
  | no => exact h
end

/-! ### judgements -/
abbrev FE := Env → Store → R D
abbrev FT := Env → Store → R Bool
abbrev FA := Env → Store → R (List D)
abbrev FS := Env → Store → RS
def rdE (K : PySem.W.Frag) (W : WX) (f : FE) : TE := fun σ H Q => ∃ w ρ η, Rel K w σ H ρ η ∧ Post K (RepV K) w H Q (fun c d H' => W c d σ H') (f ρ η)
def rdT (K : PySem.W.Frag) (W : WX) (f : FT) : TT := fun σ H Q => ∃ w ρ η, Rel K w σ H ρ η ∧ Post K (fun _ _ (b c : Bool) => b = c) w H Q (fun c d H' => W c d σ H') (f ρ η)
def rdA (K : PySem.W.Frag) (W : WX) (f : FA) : TA := fun σ H Q => ∃ w ρ η, Rel K w σ H ρ η ∧ Post K (RepVs K) w H Q (fun c d H' => W c d σ H') (f ρ η)
def rdS (K : PySem.W.Frag) (W : WX) (f : FS) : TS := fun E σ H => ∃ w ρ η, Rel K w σ H ρ η ∧ PostS K w H E W (f ρ η)
abbrev DE (X : Cx) (W : WX) (e : Expr) (f : FE) : Prop := PE X e (rdE X.K W f)
abbrev DT (X : Cx) (W : WX) (e : Expr) (f : FT) : Prop := PT X e (rdT X.K W f)
abbrev DW (X : Cx) (W : WX) (e : Expr) (f : FT) : Prop := PW X e (rdT X.K W f)
abbrev DA (X : Cx) (W : WX) (es : List Expr) (f : FA) : Prop := PA X es (rdA X.K W f)
abbrev DS (X : Cx) (W : WX) (s : Stmt) (f : FS) : Prop := PS X s (rdS X.K W f)
abbrev DSs (X : Cx) (W : WX) (s : List Stmt) (f : FS) : Prop := PSs X s (rdS X.K W f)
section
variable {X : Cx} {e : Expr} {es : List Expr} {s : Stmt} {ss : List Stmt}
theorem PE.imp {t t' : TE} (h : PE X e t) (m : ∀ σ H Q, t' σ H Q → t σ H Q) : PE X e t' := ⟨fun pins s σ H Q I q => h.run pins s σ H Q I (m σ H Q q)⟩
theorem PT.imp {t t' : TT} (h : PT X e t) (m : ∀ σ H Q, t' σ H Q → t σ H Q) : PT X e t' := ⟨fun pins s σ H Q I q => h.run pins s σ H Q I (m σ H Q q)⟩
theorem PW.imp {t t' : TT} (h : PW X e t) (m : ∀ σ H Q, t' σ H Q → t σ H Q) : PW X e t' := ⟨fun wh pins s σ H Q I q => h.run wh pins s σ H Q I (m σ H Q q)⟩
theorem PA.imp {t t' : TA} (h : PA X es t) (m : ∀ σ H Q, t' σ H Q → t σ H Q) : PA X es t' := ⟨fun pos pins s σ H Q I q => h.run pos pins s σ H Q I (m σ H Q q)⟩
theorem PS.imp {t t' : TS} (h : PS X s t) (m : ∀ E σ H, t' E σ H → t E σ H) : PS X s t' := ⟨fun pins s σ H D I q => h.run pins s σ H D I (m D σ H q)⟩
theorem PSs.imp {t t' : TS} (h : PSs X ss t) (m : ∀ E σ H, t' E σ H → t E σ H) : PSs X ss t' := ⟨fun pins s σ H D I q => h.run pins s σ H D I (m D σ H q)⟩
end
end Dn
/-! Dn part 2: expressions, calls. -/
namespace Dn
open PySem PySem.Spec PyProof.Rows L2
section
variable {α β γ δ : Type} {X : Cx} {W : WX} {K : PySem.W.Frag} {w w1 w' : Wd} {σ : L2.St} {H H1 H' : Hp} {ρ : Env} {η η1 : Store} {fa fb fc f : FE} {a b c e : Expr} {es : List Expr} {pos p : Pos}
/-! ### wishes grow -/
theorem rdE.imp {Q Q' : VK} (m : ∀ v H, Q v H → Q' v H) (h : rdE K W f σ H Q) : rdE K W f σ H Q' :=
  let ⟨w, ρ, η, r, p⟩ := h; ⟨w, ρ, η, r, p.imp m⟩
/-- one expression, then more -/
theorem rdE_then {rep : Rp γ δ} {Q : δ → Hp → Prop} {k : D → Store → R γ} (rel : Rel K w σ H ρ η) (h : Post K rep w H Q (fun c d H' => W c d σ H') ((fa ρ η).bind k)) :
    rdE K W fa σ H fun v H1 => ∃ w1 d η1, Ext w H w1 H1 ∧ Rel K w1 σ H1 ρ η1 ∧ RepV K w1 H1 v d ∧ Post K rep w1 H1 Q (fun c d H' => W c d σ H') (k d η1) :=
  ⟨w, ρ, η, rel, (Post.bind (rep := RepV K) h).imp fun v H1 ⟨w1, d, η1, e, hr, rv, p⟩ => ⟨w1, d, η1, e, ⟨rel.env.ext e, hr⟩, rv, p⟩⟩
theorem rdT_then {rep : Rp γ δ} {Q : δ → Hp → Prop} {ft : FT} {k : Bool → Store → R γ} (rel : Rel K w σ H ρ η) (h : Post K rep w H Q (fun c d H' => W c d σ H') ((ft ρ η).bind k)) :
    rdT K W ft σ H fun b H1 => ∃ w1 η1, Ext w H w1 H1 ∧ Rel K w1 σ H1 ρ η1 ∧ Post K rep w1 H1 Q (fun c d H' => W c d σ H') (k b η1) :=
  ⟨w, ρ, η, rel, (Post.bind (rep := fun _ _ (b c : Bool) => b = c) h).imp fun v H1 ⟨w1, d, η1, e, hr, rv, p⟩ => ⟨w1, η1, e, ⟨rel.env.ext e, hr⟩, by subst rv; exact p⟩⟩
theorem rdA_then {rep : Rp γ δ} {Q : δ → Hp → Prop} {fA : FA} {k : List D → Store → R γ} (rel : Rel K w σ H ρ η) (h : Post K rep w H Q (fun c d H' => W c d σ H') ((fA ρ η).bind k)) :
    rdA K W fA σ H fun vs H1 => ∃ w1 ds η1, Ext w H w1 H1 ∧ Rel K w1 σ H1 ρ η1 ∧ RepVs K w1 H1 vs ds ∧ Post K rep w1 H1 Q (fun c d H' => W c d σ H') (k ds η1) :=
  ⟨w, ρ, η, rel, (Post.bind (rep := RepVs K) h).imp fun v H1 ⟨w1, d, η1, e, hr, rv, p⟩ => ⟨w1, d, η1, e, ⟨rel.env.ext e, hr⟩, rv, p⟩⟩

/-! ### names, constants -/
def gv (i : Nat) : FE := fun ρ η => match ρ[i]? with
  | some (some d) => .ok d η
  | _ => .no
theorem de_v (i : Nat) {x : Str} (hN : X.N[i]? = some x := by rfl) (hv : Vis X.env.scope x := by first | exact Or.inl rfl | exact Or.inr (Or.inl rfl) | exact Or.inr (Or.inr rfl))
    (hd : (x == ("__debug__" : Str)) = false := by decide) (hcd : (x == ("__classdict__" : Str)) = false := by decide) : DE X W (.Name x pos) (gv i) :=
  PE.imp (pe_var hN hv hd hcd) fun σ H Q ⟨w, ρ, η, rel, p⟩ => by
    unfold gv at p
    split at p
    · rename_i d e
      obtain ⟨v, e1, r⟩ := rel.env.at_ i d e
      exact ⟨v, e1, p v w H .refl rel.heap r⟩
    · exact p.elim
def cst (d : D) : FE := fun _ η => .ok d η
theorem de_cst {t : TE} {v : V} {d : D} (h : PE X e t) (m : ∀ σ H (Q : VK), Q v H → t σ H Q) (r : ∀ w H, RepV X.K w H v d) : DE X W e (cst d) :=
  PE.imp h fun σ H Q ⟨w, ρ, η, rel, p⟩ => m σ H Q (p v w H .refl rel.heap (r w H))
theorem de_int {i j} : DE X W (.Constant (.int i) j pos) (cst (.int i)) := de_cst pe_int (fun _ _ _ h => h) fun _ _ => .int i
theorem de_str {x j} : DE X W (.Constant (.str x) j pos) (cst (.str x)) := de_cst pe_str (fun _ _ _ h => h) fun _ _ => .str x
theorem de_bl {b j} : DE X W (.Constant (.bool b) j pos) (cst (.bl b)) := de_cst pe_bl (fun _ _ _ h => h) fun _ _ => .bl b
theorem de_non {j} : DE X W (.Constant .none j pos) (cst .non) := de_cst pe_non (fun _ _ _ h => h) fun _ _ => .non
/-- a module's int -/
theorem de_gint {x : Str} {i : Int} (hm : ∃ t, X.mg x = some (.int i t)) (hg : Gl X x := by rfl) (hd : (x == ("__debug__" : Str)) = false := by decide) : DE X W (.Name x pos) (cst (.int i)) := by
  obtain ⟨t, hm⟩ := hm
  exact de_cst (pe_glob hg hm (v := .int i) ⟨t, rfl⟩ hd) (fun _ _ _ h => h) fun _ _ => .int i
theorem de_gstr {x z : Str} (hm : ∃ t, X.mg x = some (.str z t)) (hg : Gl X x := by rfl) (hd : (x == ("__debug__" : Str)) = false := by decide) : DE X W (.Name x pos) (cst (.str z)) := by
  obtain ⟨t, hm⟩ := hm
  exact de_cst (pe_glob hg hm (v := .str z) ⟨t, rfl⟩ hd) (fun _ _ _ h => h) fun _ _ => .str z
/-- a module's def, class -/
theorem de_gl {x : Str} (hm : X.mg x = some (.ref (He.ga X.K x))) (hg : Gl X x := by rfl) (hd : (x == ("__debug__" : Str)) = false := by decide) : DE X W (.Name x pos) (cst (.gl x)) :=
  de_cst (pe_glob hg hm (v := .ref (He.ga X.K x)) rfl hd) (fun _ _ _ h => h) fun _ _ => .gl x
/-- a built-in type as a value -/
theorem de_ty {x : Str} {n : String} (hm : X.mg x = none) (hv : bootBuiltins x = some (.type n)) (hg : Gl X x := by rfl) (hn : x ≠ "__name__" := by decide) (hd : (x == ("__debug__" : Str)) = false := by decide) : DE X W (.Name x pos) (cst (.ty n)) :=
  de_cst (pe_bltn hg hm hv (v := .ty n) rfl hn hd) (fun _ _ _ h => h) fun _ _ => .ty n

/-! ### operations on values -/
abbrev G1 := D → Store → Option (D × Store)
abbrev G2 := D → D → Store → Option (D × Store)
abbrev GL := List D → Store → Option (D × Store)
def rd1 (K : PySem.W.Frag) (g : G1) : V → Hp → VK → Prop := fun x H Q => ∃ w η d, HeapRel K w H η ∧ RepV K w H x d ∧ Post K (RepV K) w H Q (fun _ _ _ => False) (liftO (g d η))
def rd2 (K : PySem.W.Frag) (g : G2) : R2 := fun x y H Q => ∃ w η d1 d2, HeapRel K w H η ∧ RepV K w H x d1 ∧ RepV K w H y d2 ∧ Post K (RepV K) w H Q (fun _ _ _ => False) (liftO (g d1 d2 η))
def rdL (K : PySem.W.Frag) (g : GL) : List V → Hp → VK → Prop := fun xs H Q => ∃ w η ds, HeapRel K w H η ∧ RepVs K w H xs ds ∧ Post K (RepV K) w H Q (fun _ _ _ => False) (liftO (g ds η))
def rdM (K : PySem.W.Frag) (g : D → GL) : V → List V → Hp → VK → Prop := fun x xs H Q => ∃ w η d ds, HeapRel K w H η ∧ RepV K w H x d ∧ RepVs K w H xs ds ∧ Post K (RepV K) w H Q (fun _ _ _ => False) (liftO (g d ds η))
def e1 (g : G1) (fa : FE) : FE := fun ρ η => (fa ρ η).bind fun x η => liftO (g x η)
def e2 (g : G2) (fa fb : FE) : FE := fun ρ η => (fa ρ η).bind fun x η => (fb ρ η).bind fun y η => liftO (g x y η)
def eL (g : GL) (fA : FA) : FE := fun ρ η => (fA ρ η).bind fun xs η => liftO (g xs η)
def eM (g : D → GL) (fa : FE) (fA : FA) : FE := fun ρ η => (fa ρ η).bind fun x η => (fA ρ η).bind fun xs η => liftO (g x xs η)
theorem e1_reads {g : G1} {Q : VK} (h : rdE K W (e1 g fa) σ H Q) : tUn (rd1 K g) (rdE K W fa) σ H Q := by
  obtain ⟨w, ρ, η, rel, p⟩ := h
  exact (rdE_then rel p).imp fun v H1 ⟨w1, d, η1, e, rel1, rv, p1⟩ => ⟨w1, η1, d, rel1.heap, rv, p1.lift⟩
theorem e2_reads {g : G2} {Q : VK} (h : rdE K W (e2 g fa fb) σ H Q) : tOp (rd2 K g) (rdE K W fa) (rdE K W fb) σ H Q := by
  obtain ⟨w, ρ, η, rel, p⟩ := h
  refine (rdE_then rel p).imp fun v H1 ⟨w1, d, η1, e, rel1, rv, p1⟩ => ?_
  exact (rdE_then rel1 p1).imp fun u H2 ⟨w2, d2, η2, e2, rel2, rv2, p2⟩ => ⟨w2, η2, d, d2, rel2.heap, rv.ext e2, rv2, p2.lift⟩
theorem eL_reads {g : GL} {fA : FA} {Q : VK} (h : rdE K W (eL g fA) σ H Q) : tCB (rdL K g) (rdA K W fA) σ H Q := by
  obtain ⟨w, ρ, η, rel, p⟩ := h
  obtain ⟨w, ρ, η, rel, q⟩ := rdA_then rel p
  exact ⟨w, ρ, η, rel, q.imp fun v H1 ⟨w1, d, η1, e, rel1, rv, p1⟩ => ⟨w1, η1, d, rel1.heap, rv, p1.lift⟩⟩
theorem de_un {op : UnaryOp} {g : G1} (ho : UnR X (unaryOp op) (rd1 X.K g)) (ha : DE X W a fa) : DE X W (.UnaryOp op a pos) (e1 g fa) := PE.imp (pe_un ho ha) fun _ _ _ => e1_reads
theorem de_op {op : Operator} {g : G2} (ho : OpR X (binaryOp op) (rd2 X.K g)) (ha : DE X W a fa) (hb : DE X W b fb) : DE X W (.BinOp a op b pos) (e2 g fa fb) := PE.imp (pe_op ho ha hb) fun _ _ _ => e2_reads
theorem de_cmp {op : CmpOp} {g : G2} (ho : OpR X (compareOp op) (rd2 X.K g)) (ha : DE X W a fa) (hb : DE X W b fb) (hm : behindInMarks op b = false := by first | exact nomark _ | rfl) : DE X W (.Compare a [op] [b] pos) (e2 g fa fb) :=
  PE.imp (pe_cmpR ho ha hb hm) fun _ _ _ => e2_reads
def chn (g g' : G2) (fa fb fc : FE) : FE := fun ρ η => (fa ρ η).bind fun x η => (fb ρ η).bind fun y η => (liftO (g x y η)).bind fun z η => match z with
  | .bl true => (fc ρ η).bind fun u η => liftO (g' y u η)
  | .bl false => .ok (.bl false) η
  | _ => .no
theorem de_chain {op op' : CmpOp} {g g' : G2} (ho : OpR X (compareOp op) (rd2 X.K g)) (ho' : OpR X (compareOp op') (rd2 X.K g')) (ha : DE X W a fa) (hb : DE X W b fb) (hc : DE X W c fc)
    (hm : lastMarks [op, op'] [b, c] = false := by with_unfolding_all rfl) : DE X W (.Compare a [op, op'] [b, c] pos) (chn g g' fa fb fc) :=
  PE.imp (pe_chain ho ho' ha hb hc hm) fun σ H Q ⟨w, ρ, η, rel, p⟩ => by
    refine (rdE_then rel p).imp fun v H1 ⟨w1, d, η1, e, rel1, rv, p1⟩ => ?_
    refine (rdE_then rel1 p1).imp fun u H2 ⟨w2, d2, η2, e2, rel2, rv2, p2⟩ => ?_
    refine ⟨w2, η2, d, d2, rel2.heap, rv.ext e2, rv2, ((Post.bind (rep := RepV X.K) p2).imp fun z H3 ⟨w3, dz, η3, e3, hr3, rz, p3⟩ => ?_).lift⟩
    have rel3 : Rel X.K w3 σ H3 ρ η3 := ⟨rel2.env.ext e3, hr3⟩
    cases rz with
    | bl k =>
      cases k with
      | true =>
        refine ⟨true, rfl, iteT ?_⟩
        exact (rdE_then rel3 p3).imp fun t H4 ⟨w4, d4, η4, e4, rel4, rv4, p4⟩ => ⟨w4, η4, d2, d4, rel4.heap, (rv2.ext e3).ext e4, rv4, p4.lift⟩
      | false => exact ⟨false, rfl, iteF (p3 _ _ _ .refl hr3 (.bl false))⟩
    | _ => exact p3.elim

/-! ### truth -/
def truD : D → Store → Option Bool
  | .non, _ => some false
  | .bl b, _ => some b
  | .int i, _ => some (i != 0)
  | .str x, _ => if x.length ≤ sizeLine then some ((x.length : Int) != 0) else none
  | .tup xs, _ => some (!xs.isEmpty)
  | .lst xs, _ => some (!xs.isEmpty)
  | .scr xs, _ => some (!xs.isEmpty)
  | .obj i, η => match η[i]? with
    | some (.lst xs) => some (!xs.isEmpty)
    | some (.dK kvs) => some (!kvs.isEmpty)
    | _ => none
  | _, _ => none
theorem isE {α β : Type} {xs : List α} {ys : List β} (h : xs.length = ys.length) : xs.isEmpty = ys.isEmpty := by
  cases xs <;> cases ys <;> simp_all
theorem truD_ok {v : V} {d : D} {k : Bool} (hr : HeapRel K w H η) (rv : RepV K w H v d) (h : truD d η = some k) : TruV K v H k := by
  cases rv with
  | non => cases h; rfl
  | bl b => cases h; rfl
  | int i => cases h; rfl
  | str x =>
    dsimp only [truD] at h
    split at h
    · rename_i hl; cases h; exact ⟨hl, rfl⟩
    · cases h
  | tup s r => cases h; exact .inr (.inl ⟨_, s.sq, by rw [isE r.length]⟩)
  | lst s r => cases h; exact .inl ⟨_, s.sq, by rw [isE r.length]⟩
  | scr s r => cases h; exact .inl ⟨_, s.sq, by rw [isE r.length]⟩
  | obj ha =>
    rename_i i a
    dsimp only [truD] at h
    split at h
    · rename_i xs eo
      cases h
      obtain ⟨ys, e, r⟩ := hr.at_ _ _ _ ha eo
      exact .inl ⟨_, SqL.of e, by rw [isE r.length]⟩
    · rename_i kvs eo
      cases h
      obtain ⟨ys, e, r⟩ := hr.at_ _ _ _ ha eo
      refine .inr (.inr ⟨_, e, ?_⟩)
      have : ys.length = kvs.length := by simpa using congrArg List.length r.1
      rw [isE this]
    · cases h
  | gl x => cases h
  | ty n => cases h
def tru (f : FE) : FT := fun ρ η => (f ρ η).bind fun d η => match truD d η with
  | some b => .ok b η
  | none => .no
/-- a value's truth as a test -/
theorem dt_tru (ha : DE X W a fa) (he : ∀ whole, isTrue a X.env whole = (do let v ← whole; standAt a.pos; holding [v] (truthy v)) := by intro _; rfl) : DT X W a (tru fa) :=
  PT.imp (pt_truth ha he) fun σ H Q ⟨w, ρ, η, rel, p⟩ => by
    refine (rdE_then rel p).imp fun v H1 ⟨w1, d, η1, e, rel1, rv, p1⟩ => ?_
    split at p1
    · rename_i k ek
      exact ⟨k, truD_ok rel1.heap rv ek, p1 k w1 H1 .refl rel1.heap rfl⟩
    · exact p1.elim
/-- a comparison as a test -/
def tst (f : FE) : FT := fun ρ η => (f ρ η).bind fun d η => match d with
  | .bl b => .ok b η
  | _ => .no
theorem tst_reads {Q : Bool → Hp → Prop} {t : TE} (h : rdT K W (tst f) σ H Q) (m : ∀ Q, rdE K W f σ H Q → t σ H Q) : tTest t σ H Q := by
  obtain ⟨w, ρ, η, rel, p⟩ := h
  refine m _ ((rdE_then rel p).imp fun v H1 ⟨w1, d, η1, e, rel1, rv, p1⟩ => ?_)
  cases rv with
  | bl k => exact ⟨k, rfl, p1 k w1 H1 .refl rel1.heap rfl⟩
  | _ => exact p1.elim
theorem dt_cmp {op : CmpOp} {g : G2} (ho : OpR X (compareOp op) (rd2 X.K g)) (ha : DE X W a fa) (hb : DE X W b fb) (hm : behindInMarks op b = false := by first | exact nomark _ | rfl) : DT X W (.Compare a [op] [b] pos) (tst (e2 g fa fb)) :=
  PT.imp (pt_cmpR ho ha hb hm) fun _ _ _ h => tst_reads h fun _ => e2_reads
theorem dt_chain {op op' : CmpOp} {g g' : G2} (ho : OpR X (compareOp op) (rd2 X.K g)) (ho' : OpR X (compareOp op') (rd2 X.K g')) (ha : DE X W a fa) (hb : DE X W b fb) (hc : DE X W c fc)
    (hm : lastMarks [op, op'] [b, c] = false := by with_unfolding_all rfl) : DT X W (.Compare a [op, op'] [b, c] pos) (tst (chn g g' fa fb fc)) :=
  PT.imp (pt_chain ho ho' ha hb hc hm) fun _ _ _ h => tst_reads h fun Q hq => by
    obtain ⟨w, ρ, η, rel, p⟩ := hq
    refine (rdE_then rel p).imp fun v H1 ⟨w1, d, η1, e, rel1, rv, p1⟩ => ?_
    refine (rdE_then rel1 p1).imp fun u H2 ⟨w2, d2, η2, e2, rel2, rv2, p2⟩ => ?_
    refine ⟨w2, η2, d, d2, rel2.heap, rv.ext e2, rv2, ((Post.bind (rep := RepV X.K) p2).imp fun z H3 ⟨w3, dz, η3, e3, hr3, rz, p3⟩ => ?_).lift⟩
    have rel3 : Rel X.K w3 _ H3 ρ η3 := ⟨rel2.env.ext e3, hr3⟩
    cases rz with
    | bl k =>
      cases k with
      | true =>
        refine ⟨true, rfl, iteT ?_⟩
        exact (rdE_then rel3 p3).imp fun t H4 ⟨w4, d4, η4, e4, rel4, rv4, p4⟩ => ⟨w4, η4, d2, d4, rel4.heap, (rv2.ext e3).ext e4, rv4, p4.lift⟩
      | false => exact ⟨false, rfl, iteF (p3 _ _ _ .refl hr3 (.bl false))⟩
    | _ => exact p3.elim
/-! ### and, or, not -/
def andT (s t : FT) : FT := fun ρ η => (s ρ η).bind fun b η => if b = true then t ρ η else .ok false η
def orT (s t : FT) : FT := fun ρ η => (s ρ η).bind fun b η => if b = true then .ok true η else t ρ η
def notT (s : FT) : FT := fun ρ η => (s ρ η).bind fun b η => .ok (!b) η
variable {s t : FT} {rest : List Expr}
theorem dw_and1 (ha : DT X W a s) : DW X W (.BoolOp .And [a] pos) s := pw_and1 ha
theorem dw_or1 (ha : DT X W a s) : DW X W (.BoolOp .Or [a] pos) s := pw_or1 ha
theorem dw_and (ha : DT X W a s) (hb : DW X W (.BoolOp .And (b :: rest) pos) t) : DW X W (.BoolOp .And (a :: b :: rest) pos) (andT s t) :=
  PW.imp (pw_and ha hb) fun σ H Q ⟨w, ρ, η, rel, p⟩ => by
    obtain ⟨w, ρ, η, rel, q⟩ := rdT_then rel p
    refine ⟨w, ρ, η, rel, q.imp fun c H1 ⟨w1, η1, e, rel1, p1⟩ => ?_⟩
    cases c with
    | true => exact iteT ⟨w1, _, η1, rel1, p1⟩
    | false => exact iteF (p1 _ w1 H1 .refl rel1.heap rfl)
theorem dw_or (ha : DT X W a s) (hb : DW X W (.BoolOp .Or (b :: rest) pos) t) : DW X W (.BoolOp .Or (a :: b :: rest) pos) (orT s t) :=
  PW.imp (pw_or ha hb) fun σ H Q ⟨w, ρ, η, rel, p⟩ => by
    obtain ⟨w, ρ, η, rel, q⟩ := rdT_then rel p
    refine ⟨w, ρ, η, rel, q.imp fun c H1 ⟨w1, η1, e, rel1, p1⟩ => ?_⟩
    cases c with
    | false => exact iteF ⟨w1, _, η1, rel1, p1⟩
    | true => exact iteT (p1 _ w1 H1 .refl rel1.heap rfl)
theorem dt_w (h : DW X W a s) : DT X W a s := h.pt
theorem dt_not (ha : DT X W a s) : DT X W (.UnaryOp .Not a pos) (notT s) :=
  PT.imp (pt_not ha) fun σ H Q ⟨w, ρ, η, rel, p⟩ => by
    obtain ⟨w, ρ, η, rel, q⟩ := rdT_then rel p
    exact ⟨w, ρ, η, rel, q.imp fun c H1 ⟨w1, η1, e, rel1, p1⟩ => p1 _ w1 H1 .refl rel1.heap rfl⟩
/-- as values, by truth -/
def andE (fa fb : FE) : FE := fun ρ η => (fa ρ η).bind fun d η => match truD d η with
  | some true => fb ρ η
  | some false => .ok d η
  | none => .no
def orE (fa fb : FE) : FE := fun ρ η => (fa ρ η).bind fun d η => match truD d η with
  | some true => .ok d η
  | some false => fb ρ η
  | none => .no
def notE (fa : FE) : FE := fun ρ η => (fa ρ η).bind fun d η => match truD d η with
  | some b => .ok (.bl (!b)) η
  | none => .no
theorem de_one {op} (h : DE X W a fa) : DE X W (.BoolOp op [a] pos) fa := pe_one h
theorem de_and (ha : DE X W a fa) (hb : DE X W (.BoolOp .And (b :: rest) pos) fb) : DE X W (.BoolOp .And (a :: b :: rest) pos) (andE fa fb) :=
  PE.imp (pe_andT ha hb) fun σ H Q ⟨w, ρ, η, rel, p⟩ => by
    refine (rdE_then rel p).imp fun v H1 ⟨w1, d, η1, e, rel1, rv, p1⟩ => ?_
    split at p1
    · rename_i ek; exact ⟨true, truD_ok rel1.heap rv ek, iteT ⟨w1, _, η1, rel1, p1⟩⟩
    · rename_i ek; exact ⟨false, truD_ok rel1.heap rv ek, iteF (p1 v w1 H1 .refl rel1.heap rv)⟩
    · exact p1.elim
theorem de_or (ha : DE X W a fa) (hb : DE X W (.BoolOp .Or (b :: rest) pos) fb) : DE X W (.BoolOp .Or (a :: b :: rest) pos) (orE fa fb) :=
  PE.imp (pe_orT ha hb) fun σ H Q ⟨w, ρ, η, rel, p⟩ => by
    refine (rdE_then rel p).imp fun v H1 ⟨w1, d, η1, e, rel1, rv, p1⟩ => ?_
    split at p1
    · rename_i ek; exact ⟨true, truD_ok rel1.heap rv ek, iteT (p1 v w1 H1 .refl rel1.heap rv)⟩
    · rename_i ek; exact ⟨false, truD_ok rel1.heap rv ek, iteF ⟨w1, _, η1, rel1, p1⟩⟩
    · exact p1.elim
theorem de_not (ha : DE X W a fa) : DE X W (.UnaryOp .Not a pos) (notE fa) :=
  PE.imp (pe_notT ha) fun σ H Q ⟨w, ρ, η, rel, p⟩ => by
    refine (rdE_then rel p).imp fun v H1 ⟨w1, d, η1, e, rel1, rv, p1⟩ => ?_
    split at p1
    · rename_i k ek; exact ⟨k, truD_ok rel1.heap rv ek, p1 _ w1 H1 .refl rel1.heap (.bl _)⟩
    · exact p1.elim
def ifE (s : FT) (fa fb : FE) : FE := fun ρ η => (s ρ η).bind fun b η => if b = true then fa ρ η else fb ρ η
theorem de_if (hc : DT X W c s) (ha : DE X W a fa) (hb : DE X W b fb) : DE X W (.IfExp c a b pos) (ifE s fa fb) :=
  PE.imp (pe_ifExp hc ha hb) fun σ H Q ⟨w, ρ, η, rel, p⟩ => by
    obtain ⟨w, ρ, η, rel, q⟩ := rdT_then rel p
    refine ⟨w, ρ, η, rel, q.imp fun c H1 ⟨w1, η1, e, rel1, p1⟩ => ?_⟩
    cases c with
    | true => exact iteT ⟨w1, _, η1, rel1, p1⟩
    | false => exact iteF ⟨w1, _, η1, rel1, p1⟩

/-! ### arguments, displays -/
def aNil : FA := fun _ η => .ok [] η
def aCons (f : FE) (g : FA) : FA := fun ρ η => (f ρ η).bind fun d η => (g ρ η).bind fun ds η => .ok (d :: ds) η
variable {fA : FA}
theorem da_nil : DA X W [] aNil := PA.imp pa_nil fun σ H Q ⟨w, ρ, η, rel, p⟩ => p [] w H .refl rel.heap .nil
theorem da_cons (ha : DE X W e f) (hr : DA X W es fA) (hs : starEach (e :: es) X.env = (false, eval e X.env) :: starEach es X.env := by rfl) : DA X W (e :: es) (aCons f fA) :=
  PA.imp (pa_cons ha hr hs) fun σ H Q ⟨w, ρ, η, rel, p⟩ => by
    refine (rdE_then rel p).imp fun v H1 ⟨w1, d, η1, e, rel1, rv, p1⟩ => ?_
    obtain ⟨w2, ρ2, η2, rel2, q⟩ := rdA_then rel1 p1
    exact ⟨w2, ρ2, η2, rel2, q.imp fun vs H2 ⟨w3, ds, η3, e3, rel3, rvs, p3⟩ => p3 _ w3 H2 .refl rel3.heap (.cons (rv.ext e3) rvs)⟩
/-- a tuple -/
def mkT (fA : FA) : FE := fun ρ η => (fA ρ η).bind fun ds η => if ds.length ≤ sizeLine then .ok (.tup ds) η else .no
/-- a list that is never changed -/
def mkL (fA : FA) : FE := fun ρ η => (fA ρ η).bind fun ds η => if ds.length ≤ sizeLine then .ok (.lst ds) η else .no
/-- a list that may change -/
def mkO (fA : FA) : FE := fun ρ η => (fA ρ η).bind fun ds η => if ds.length ≤ sizeLine then .ok (.obj η.length) (η ++ [.lst ds]) else .no
theorem RepV.newT {xs : List V} {ds : List D} (hr : HeapRel K w H η) (r : RepVs K w H xs ds) {q : Addr} (hp : H q = none) : RepV K w (upd H q (.tup xs)) (.ref q) (.tup ds) :=
  .tup (StT.of_new hr hp) (r.ext (Ext.laid hp hr))
theorem RepV.newL {xs : List V} {ds : List D} (hr : HeapRel K w H η) (r : RepVs K w H xs ds) {q : Addr} (hp : H q = none) : RepV K w (upd H q (.lst xs)) (.ref q) (.lst ds) :=
  .lst (StL.of_new hr hp) (r.ext (Ext.laid hp hr))
theorem HeapRel.newO {xs : List V} {ds : List D} (hr : HeapRel K w H η) (r : RepVs K w H xs ds) {q : Addr} (hp : H q = none) : HeapRel K (w.more q) (upd H q (.lst xs)) (η ++ [.lst ds]) :=
  hr.more hp ⟨xs, upd_same, r.ext (Ext.more hp hr)⟩
theorem HeapRel.ixO (hr : HeapRel K w H η) (q : Addr) : (w.more q).io[η.length]? = some q := by
  show (w.io ++ [q])[η.length]? = some q
  rw [← hr.len, List.getElem?_append_right (Nat.le_refl _)]
  simp
theorem de_tup {k} (h : DA X W es fA) : DE X W (.Tuple es k pos) (mkT fA) :=
  PE.imp (pe_tup h) fun σ H Q ⟨w, ρ, η, rel, p⟩ => by
    obtain ⟨w, ρ, η, rel, q⟩ := rdA_then rel p
    refine ⟨w, ρ, η, rel, q.imp fun xs H1 ⟨w1, ds, η1, e, rel1, rv, p1⟩ => ?_⟩
    split at p1
    · rename_i hl
      exact ⟨by rw [rv.length]; exact hl, fun q hq => p1 _ w1 _ (Ext.laid hq rel1.heap) (rel1.heap.laid hq) (.newT rel1.heap rv hq)⟩
    · exact p1.elim
theorem de_lst (h : DA X W es fA) : DE X W (.List es pos) (mkL fA) :=
  PE.imp (pe_lst h) fun σ H Q ⟨w, ρ, η, rel, p⟩ => by
    obtain ⟨w, ρ, η, rel, q⟩ := rdA_then rel p
    refine ⟨w, ρ, η, rel, q.imp fun xs H1 ⟨w1, ds, η1, e, rel1, rv, p1⟩ => ?_⟩
    split at p1
    · rename_i hl
      exact ⟨by rw [rv.length]; exact hl, fun q hq => p1 _ w1 _ (Ext.laid hq rel1.heap) (rel1.heap.laid hq) (.newL rel1.heap rv hq)⟩
    · exact p1.elim
theorem de_lstO (h : DA X W es fA) : DE X W (.List es pos) (mkO fA) :=
  PE.imp (pe_lst h) fun σ H Q ⟨w, ρ, η, rel, p⟩ => by
    obtain ⟨w, ρ, η, rel, q⟩ := rdA_then rel p
    refine ⟨w, ρ, η, rel, q.imp fun xs H1 ⟨w1, ds, η1, e, rel1, rv, p1⟩ => ?_⟩
    split at p1
    · rename_i hl
      exact ⟨by rw [rv.length]; exact hl, fun q hq => p1 _ _ _ (Ext.more hq rel1.heap) (rel1.heap.newO rv hq) (.obj (rel1.heap.ixO q))⟩
    · exact p1.elim

/-! ### built-in calls, subscripts -/
theorem de_callB {x : Str} {id : String} {g : GL} (hc : CallR X (.builtin id) (rdL X.K g)) (hm : X.mg x = none) (hv : bootBuiltins x = some (.builtin id)) (ha : DA X W (e :: es) fA) (hg : Gl X x := by rfl) (hn : x ≠ "__name__" := by decide) (hdb : (x == ("__debug__" : Str)) = false := by decide)
    (he : starEach (e :: es) X.env = (false, eval e X.env) :: starEach es X.env := by rfl) (hpl : (backTo pos (starEach es X.env)).any (·.1) = false := by rfl) : DE X W (.Call (.Name x p) (e :: es) [] pos) (eL g fA) :=
  PE.imp (pe_callB hc hg hm hv ha hn hdb he hpl) fun _ _ _ => eL_reads
theorem de_callTy {x : Str} {T : String} {g : GL} (hc : CallR X (.type T) (rdL X.K g)) (hm : X.mg x = none) (hv : bootBuiltins x = some (.type T)) (ha : DA X W (e :: es) fA) (hg : Gl X x := by rfl) (hn : x ≠ "__name__" := by decide) (hdb : (x == ("__debug__" : Str)) = false := by decide)
    (he : starEach (e :: es) X.env = (false, eval e X.env) :: starEach es X.env := by rfl) (hpl : (backTo pos (starEach es X.env)).any (·.1) = false := by rfl) : DE X W (.Call (.Name x p) (e :: es) [] pos) (eL g fA) :=
  PE.imp (pe_callTy hc hg hm hv ha hn hdb he hpl) fun _ _ _ => eL_reads
theorem de_ix {g : G2} (hr : IxR X (rd2 X.K g)) (ha : DE X W a fa) (hb : DE X W b fb) (hs : PlainIx b := by intro _ _; rfl) : DE X W (.Subscript a b pos) (e2 g fa fb) := PE.imp (pe_ix hr ha hb hs) fun _ _ _ => e2_reads
/-- a[lo:hi] -/
abbrev GS := D → Option Int → Option Int → Store → Option (D × Store)
def rdSl (K : PySem.W.Frag) (g : GS) : V → Option Int → Option Int → Hp → VK → Prop := fun x lo hi H Q => ∃ w η d, HeapRel K w H η ∧ RepV K w H x d ∧ Post K (RepV K) w H Q (fun _ _ _ => False) (liftO (g d lo hi η))
abbrev FO := Env → Store → R (Option Int)
def oNone : FO := fun _ η => .ok none η
def oSome (f : FE) : FO := fun ρ η => (f ρ η).bind fun d η => match d with
  | .int i => .ok (some i) η
  | _ => .no
def rdO (K : PySem.W.Frag) (W : WX) (f : FO) : TO := fun σ H Q => ∃ w ρ η, Rel K w σ H ρ η ∧ Post K (fun _ _ (b c : Option Int) => b = c) w H Q (fun c d H' => W c d σ H') (f ρ η)
abbrev DO (X : Cx) (W : WX) (e : Option Expr) (f : FO) : Prop := PO X e (rdO X.K W f)
theorem PO.imp {e : Option Expr} {t t' : TO} (h : PO X e t) (m : ∀ σ H Q, t' σ H Q → t σ H Q) : PO X e t' := ⟨fun pins s σ H Q I q => h.run pins s σ H Q I (m σ H Q q)⟩
theorem do_none : DO X W none oNone := PO.imp po_none fun σ H Q ⟨w, ρ, η, rel, p⟩ => p none w H .refl rel.heap rfl
theorem do_some (h : DE X W e f) : DO X W (some e) (oSome f) := PO.imp (po_some h) fun σ H Q ⟨w, ρ, η, rel, p⟩ => by
  refine (rdE_then rel p).imp fun v H1 ⟨w1, d, η1, e, rel1, rv, p1⟩ => ?_
  cases rv with
  | int i => exact ⟨i, rfl, p1 _ w1 H1 .refl rel1.heap rfl⟩
  | _ => exact p1.elim
def eSl (g : GS) (fa : FE) (fl fh : FO) : FE := fun ρ η => (fa ρ η).bind fun x η => (fl ρ η).bind fun l η => (fh ρ η).bind fun u η => liftO (g x l u η)
theorem rdO_then {rep : Rp γ δ} {Q : δ → Hp → Prop} {fo : FO} {k : Option Int → Store → R γ} (rel : Rel K w σ H ρ η) (h : Post K rep w H Q (fun c d H' => W c d σ H') ((fo ρ η).bind k)) :
    rdO K W fo σ H fun b H1 => ∃ w1 η1, Ext w H w1 H1 ∧ Rel K w1 σ H1 ρ η1 ∧ Post K rep w1 H1 Q (fun c d H' => W c d σ H') (k b η1) :=
  ⟨w, ρ, η, rel, (Post.bind (rep := fun _ _ (b c : Option Int) => b = c) h).imp fun v H1 ⟨w1, d, η1, e, hr, rv, p⟩ => ⟨w1, η1, e, ⟨rel.env.ext e, hr⟩, by subst rv; exact p⟩⟩
theorem rdO.imp {Q Q' : Option Int → Hp → Prop} {fo : FO} (m : ∀ v H, Q v H → Q' v H) (h : rdO K W fo σ H Q) : rdO K W fo σ H Q' :=
  let ⟨w, ρ, η, r, p⟩ := h; ⟨w, ρ, η, r, p.imp m⟩
theorem de_slice {g : GS} {lo hi : Option Expr} {fl fh : FO} {p2 : Pos} (hr : SlR X (rdSl X.K g)) (he : DE X W e f) (hl : DO X W lo fl) (hu : DO X W hi fh) : DE X W (.Subscript e (.Slice lo hi none p2) pos) (eSl g f fl fh) :=
  PE.imp (pe_slice hr he hl hu) fun σ H Q ⟨w, ρ, η, rel, p⟩ => by
    refine (rdE_then rel p).imp fun v H1 ⟨w1, d, η1, e, rel1, rv, p1⟩ => ?_
    refine (rdO_then rel1 p1).imp fun l H2 ⟨w2, η2, e2, rel2, p2⟩ => ?_
    exact (rdO_then rel2 p2).imp fun u H3 ⟨w3, η3, e3, rel3, p3⟩ => ⟨w3, η3, d, rel3.heap, (rv.ext e2).ext e3, p3.lift⟩

/-! ### calls of the text's defs -/
abbrev FF := List D → Store → R D
def spD (K : PySem.W.Frag) (n : Nat) (F : FF) : Sp := fun vs H Q E => ∃ w η ds, HeapRel K w H η ∧ RepVs K w H vs ds ∧ ds.length = n ∧ Post K (RepV K) w H Q E (F ds η)
def eCall (n : Nat) (F : FF) (fA : FA) : FE := fun ρ η => (fA ρ η).bind fun ds η => if ds.length = n then F ds η else .no
theorem spD.len {n : Nat} {F : FF} {ps : List Str} (hn : ps.length = n) : ∀ vs H Q E, spD K n F vs H Q E → vs.length = ps.length := fun vs H Q E ⟨w, η, ds, _, r, l, _⟩ => by rw [r.length, l, hn]
/-- a def of the module, called by its name -/
theorem de_call {x : Str} {n k : Nat} {F : FF} {fd : FuncData} {ps : List Str} (tk : Takes X W) (hr : Room k X.A) (Fo : FnOk X.prog X.w X.K X.mg X.base (L2.CX X.prog X.w) k (He.ga X.K x) fd ps (spD X.K n F))
    (hm : X.mg x = some (.ref (He.ga X.K x))) (hk : PySem.W.keepIn X.K (.ref (He.ga X.K x)) = true) (hb : Binds X.K fd ps []) (ha : DA X W (e :: es) fA) (hg : Gl X x := by rfl)
    (hdb : (x == ("__debug__" : Str)) = false := by decide) (he : starEach (e :: es) X.env = (false, eval e X.env) :: starEach es X.env := by rfl) (hpl : (backTo pos (starEach es X.env)).any (·.1) = false := by rfl) :
    DE X W (.Call (.Name x p) (e :: es) [] pos) (eCall n F fA) :=
  PE.imp (pe_callS Fo hr hg hm hk hb (fun σ => passAt tk σ) ha hdb he hpl) fun σ H Q ⟨w, ρ, η, rel, p⟩ => by
    obtain ⟨w, ρ, η, rel, q⟩ := rdA_then rel p
    refine ⟨w, ρ, η, rel, q.imp fun vs H1 ⟨w1, ds, η1, e, rel1, rv, p1⟩ => ?_⟩
    split at p1
    · rename_i hl
      exact ⟨w1, η1, ds, rel1.heap, rv, hl, p1⟩
    · exact p1.elim
end
end Dn
/-! Dn part 3: targets, statements, loops, comprehensions, defs. -/
namespace Dn
open PySem PySem.Spec PyProof.Rows L2
section
variable {α β γ δ : Type} {X : Cx} {W : WX} {K : PySem.W.Frag} {w w1 w' : Wd} {σ : L2.St} {H H1 H' : Hp} {ρ : Env} {η η1 : Store} {fa fb fc f : FE} {a b c e : Expr} {es : List Expr} {pos p : Pos} {s : FT} {fs gs : FS} {st : Stmt} {ss : List Stmt}
/-! ### targets -/
abbrev TGt := D → Env → Option Env
def bN (i : Nat) : TGt := fun d ρ => some (ρ.set i (some d))
def bTs : List TGt → List D → Env → Option Env
  | [], [], ρ => some ρ
  | b :: bs, d :: ds, ρ => match b d ρ with
    | some ρ => bTs bs ds ρ
    | none => none
  | _, _, _ => none
def bT (bs : List TGt) : TGt := fun d ρ => match d with
  | .tup ds => bTs bs ds ρ
  | .lst ds => bTs bs ds ρ
  | _ => none
def rdG (K : PySem.W.Frag) (sl : List Nat) (b : TGt) : TG := fun v σ H Q => ∃ w ρ d ρ', EnvRel K w σ H ρ ∧ RepV K w H v d ∧ b d ρ = some ρ' ∧
  ∀ σ', EnvRel K w σ' H ρ' → σ'.length = σ.length → (∀ j, j ∉ sl → σ'[j]? = σ[j]?) → Q σ' H
def rdGs (K : PySem.W.Frag) (sl : List Nat) (bs : List TGt) : TGs := fun vs σ H Q => ∃ w ρ ds ρ', EnvRel K w σ H ρ ∧ RepVs K w H vs ds ∧ bTs bs ds ρ = some ρ' ∧
  ∀ σ', EnvRel K w σ' H ρ' → σ'.length = σ.length → (∀ j, j ∉ sl → σ'[j]? = σ[j]?) → Q σ' H
abbrev DG (X : Cx) (sl : List Nat) (t : Expr) (b : TGt) : Prop := PG X t (rdG X.K sl b)
abbrev DGs (X : Cx) (sl : List Nat) (ts : List Expr) (bs : List TGt) : Prop := PGs X ts (rdGs X.K sl bs)
theorem PG.imp {e : Expr} {t t' : TG} (h : PG X e t) (m : ∀ v σ H Q, t' v σ H Q → t v σ H Q) : PG X e t' := ⟨fun pins s σ H v u Q I r q => h.run pins s σ H v u Q I r (m v σ H Q q)⟩
theorem PGs.imp {es : List Expr} {t t' : TGs} (h : PGs X es t) (m : ∀ v σ H Q, t' v σ H Q → t v σ H Q) : PGs X es t' := ⟨fun pins s σ H v u Q I r q => h.run pins s σ H v u Q I r (m v σ H Q q)⟩
theorem PG.or {e : Expr} {t t' : TG} (h : PG X e t) (h' : PG X e t') : PG X e (fun v σ H Q => t v σ H Q ∨ t' v σ H Q) := ⟨fun pins s σ H v u Q I r q => q.elim (h.run pins s σ H v u Q I r) (h'.run pins s σ H v u Q I r)⟩
theorem dg_n (i : Nat) {x : Str} (hN : X.N.Nodup) (hi : X.N[i]? = some x := by rfl) (hx : Loc X.env.scope x := by first | exact .inl rfl | exact .inr rfl) (hf : X.fn x = true ∨ X.env.scope.names.lookup x = some .local := by first | exact .inl rfl | exact .inr rfl | assumption) : DG X [i] (.Name x pos) (bN i) :=
  PG.imp (pg_name hN hi hx hf) fun v σ H Q ⟨w, ρ, d, ρ', er, rv, hb, q⟩ => by
    cases hb
    exact q _ (er.set rv) (by simp) fun j hj => List.getElem?_set_ne (by simpa using Ne.symm (show j ≠ i by simpa using hj))
theorem dgs_nil : DGs X [] [] [] := PGs.imp pgs_nil fun vs σ H Q ⟨w, ρ, ds, ρ', er, rv, hb, q⟩ => by
  cases rv with
  | nil => cases hb; exact ⟨rfl, q σ er rfl fun _ _ => rfl⟩
  | cons _ _ => cases hb
theorem dgs_cons {sl sl' : List Nat} {t : Expr} {ts : List Expr} {b : TGt} {bs : List TGt} (h1 : DG X sl t b) (h2 : DGs X sl' ts bs)
    (hs : (assignEach (t :: ts) X.env).map (·.2) = assign t X.env :: (assignEach ts X.env).map (·.2) := by rfl) : DGs X (sl ++ sl') (t :: ts) (b :: bs) :=
  PGs.imp (pgs_cons h1 h2 hs) fun vs σ H Q ⟨w, ρ, ds, ρ', er, rv, hb, q⟩ => by
    cases rv with
    | nil => cases hb
    | cons r rr =>
      dsimp only [bTs] at hb
      split at hb
      · rename_i ρ1 e1
        refine ⟨_, _, rfl, w, ρ, _, ρ1, er, r, e1, fun σ1 er1 l1 f1 => ⟨w, ρ1, _, ρ', er1, rr, hb, fun σ2 er2 l2 f2 => q σ2 er2 (l2.trans l1) fun j hj => ?_⟩⟩
        rw [f2 j fun z => hj (List.mem_append_right _ z), f1 j fun z => hj (List.mem_append_left _ z)]
      · cases hb
theorem dg_t {sl : List Nat} {ts : List Expr} {bs : List TGt} {k n : Nat} (hc : X.calm = true) (h : DGs X sl ts bs) (hn : (assignEach ts X.env).length = n := by rfl) (hl : bs.length = n := by rfl)
    (hst : (assignEach ts X.env).findIdx? (·.1) = none := by rfl) : DG X sl (.Tuple ts k pos) (bT bs) :=
  PG.imp (PG.or (pg_tup hc h hn hst) (pg_lst hc h hn hst)) fun v σ H Q ⟨w, ρ, d, ρ', er, rv, hb, q⟩ => by
    have len : ∀ (bs : List TGt) (ds : List D) (ρ ρ' : Env), bTs bs ds ρ = some ρ' → ds.length = bs.length := by
      intro bs
      induction bs with
      | nil => intro ds ρ ρ' h; cases ds with | nil => rfl | cons _ _ => cases h
      | cons b bs ih =>
        intro ds ρ ρ' h
        cases ds with
        | nil => cases h
        | cons d ds =>
          dsimp only [bTs] at h
          split at h
          · rename_i ρ1 e1; rw [List.length_cons, List.length_cons, ih ds ρ1 ρ' h]
          · cases h
    cases rv with
    | tup hs rr => exact .inl ⟨_, _, rfl, hs.sq, by rw [rr.length, len _ _ _ _ hb, hl], w, ρ, _, ρ', er, rr, hb, q⟩
    | lst hs rr => exact .inr ⟨_, _, rfl, hs.sq, by rw [rr.length, len _ _ _ _ hb, hl], w, ρ, _, ρ', er, rr, hb, q⟩
    | _ => cases hb

/-! ### statements -/
theorem rdS.imp {E E' : Ends} (m1 : ∀ σ H, E.nx σ H → E'.nx σ H) (m2 : ∀ v H, E.rt v H → E'.rt v H) (m3 : ∀ σ H, E.bk σ H → E'.bk σ H) (m4 : ∀ σ H, E.ct σ H → E'.ct σ H) (h : rdS K W fs E σ H) : rdS K W fs E' σ H := by
  obtain ⟨w, ρ, η, rel, p⟩ := h
  refine ⟨w, ρ, η, rel, ?_⟩
  cases e : fs ρ η with
  | nx ρ η => rw [e] at p; exact fun σ w' H' e' r => m1 _ _ (p σ w' H' e' r)
  | brk ρ η => rw [e] at p; exact fun σ w' H' e' r => m3 _ _ (p σ w' H' e' r)
  | cnt ρ η => rw [e] at p; exact fun σ w' H' e' r => m4 _ _ (p σ w' H' e' r)
  | ret d η => rw [e] at p; exact fun v w' H' e' r rv => m2 _ _ (p v w' H' e' r rv)
  | exc x ρ η => rw [e] at p; exact p
  | no => rw [e] at p; exact p
theorem rdE_thenS {E : Ends} {k : D → Store → RS} (rel : Rel K w σ H ρ η) (h : PostS K w H E W ((fa ρ η).bindS ρ k)) :
    rdE K W fa σ H fun v H1 => ∃ w1 d η1, Ext w H w1 H1 ∧ Rel K w1 σ H1 ρ η1 ∧ RepV K w1 H1 v d ∧ PostS K w1 H1 E W (k d η1) :=
  ⟨w, ρ, η, rel, PostS.bind (rep := RepV K) rel.env h⟩
theorem rdT_thenS {E : Ends} {k : Bool → Store → RS} (rel : Rel K w σ H ρ η) (h : PostS K w H E W ((s ρ η).bindS ρ k)) :
    rdT K W s σ H fun b H1 => ∃ w1 η1, Ext w H w1 H1 ∧ Rel K w1 σ H1 ρ η1 ∧ PostS K w1 H1 E W (k b η1) :=
  ⟨w, ρ, η, rel, (PostS.bind (rep := fun _ _ (b c : Bool) => b = c) rel.env h).imp fun b H1 ⟨w1, d, η1, e, r, eb, p⟩ => ⟨w1, η1, e, r, by subst eb; exact p⟩⟩
def sNil : FS := fun ρ η => .nx ρ η
def sSeq (f g : FS) : FS := fun ρ η => match f ρ η with
  | .nx ρ η => g ρ η
  | r => r
theorem dss_nil : DSs X W [] sNil := PSs.imp pss_nil fun E σ H ⟨w, ρ, η, rel, p⟩ => p σ w H .refl rel
theorem seq_reads {E : Ends} (h : rdS K W (sSeq fs gs) E σ H) : tSeq (rdS K W fs) (rdS K W gs) E σ H := by
  obtain ⟨w, ρ, η, rel, p⟩ := h
  refine ⟨w, ρ, η, rel, ?_⟩
  unfold sSeq at p
  cases e : fs ρ η with
  | nx ρ η => rw [e] at p; exact fun σ w' H' e' r => ⟨w', ρ, η, r, PostS.weak e' p⟩
  | brk ρ η => rw [e] at p; exact p
  | cnt ρ η => rw [e] at p; exact p
  | ret d η => rw [e] at p; exact p
  | exc x ρ η => rw [e] at p; exact p
  | no => rw [e] at p; exact p
theorem dss_cons (h1 : DS X W st fs) (h2 : DSs X W ss gs) : DSs X W (st :: ss) (sSeq fs gs) := PSs.imp (pss_cons h1 h2) fun _ _ _ => seq_reads
theorem dss_one (h1 : DS X W st fs) : DSs X W [st] fs := pss_one h1
theorem ds_pass : DS X W (.Pass pos) sNil := PS.imp ps_pass fun E σ H ⟨w, ρ, η, rel, p⟩ => p σ w H .refl rel
def sBrk : FS := fun ρ η => .brk ρ η
def sCnt : FS := fun ρ η => .cnt ρ η
theorem ds_brk : DS X W (.Break pos) sBrk := PS.imp ps_break fun E σ H ⟨w, ρ, η, rel, p⟩ => p σ w H .refl rel
theorem ds_cnt : DS X W (.Continue pos) sCnt := PS.imp ps_continue fun E σ H ⟨w, ρ, η, rel, p⟩ => p σ w H .refl rel
def sExp (f : FE) : FS := fun ρ η => (f ρ η).bindS ρ fun _ η => .nx ρ η
theorem ds_exp (he : DE X W e f) (hs : swapsWith e none pos.line X.env = pure false := by rfl) : DS X W (.Expr e pos) (sExp f) :=
  PS.imp (ps_expr he hs) fun E σ H ⟨w, ρ, η, rel, p⟩ => (rdE_thenS rel p).imp fun v H1 ⟨w1, d, η1, e, rel1, rv, p1⟩ => p1 σ w1 H1 .refl rel1
def sRet (f : FE) : FS := fun ρ η => (f ρ η).bindS ρ fun d η => .ret d η
theorem ds_ret (he : DE X W e f) : DS X W (.Return (some e) pos) (sRet f) :=
  PS.imp (ps_ret he) fun E σ H ⟨w, ρ, η, rel, p⟩ => (rdE_thenS rel p).imp fun v H1 ⟨w1, d, η1, e, rel1, rv, p1⟩ => p1 v w1 H1 .refl rel1.heap rv
def sRetN : FS := fun ρ η => .ret .non η
theorem ds_retN : DS X W (.Return none pos) sRetN := PS.imp ps_retN fun E σ H ⟨w, ρ, η, rel, p⟩ => p .non w H .refl rel.heap .non
def sIf (c : FT) (f g : FS) : FS := fun ρ η => (c ρ η).bindS ρ fun b η => if b = true then f ρ η else g ρ η
theorem ds_if {a b : List Stmt} (hc : DT X W c s) (ha : DSs X W a fs) (hb : DSs X W b gs) : DS X W (.If c a b pos) (sIf s fs gs) :=
  PS.imp (ps_if hc ha hb) fun E σ H ⟨w, ρ, η, rel, p⟩ => by
    obtain ⟨w, ρ, η, rel, q⟩ := rdT_thenS rel p
    refine ⟨w, ρ, η, rel, q.imp fun b H1 ⟨w1, η1, e, rel1, p1⟩ => ?_⟩
    cases b with
    | true => exact iteT ⟨w1, _, η1, rel1, p1⟩
    | false => exact iteF ⟨w1, _, η1, rel1, p1⟩
/-- target = e -/
def sAsg (f : FE) (b : TGt) : FS := fun ρ η => (f ρ η).bindS ρ fun d η => match b d ρ with
  | some ρ => .nx ρ η
  | none => .no
theorem asg_reads {E : Ends} {sl : List Nat} {b : TGt} (h : rdS K W (sAsg f b) E σ H) : tAsg (rdE K W f) (rdG K sl b) E σ H := by
  obtain ⟨w, ρ, η, rel, p⟩ := h
  refine (rdE_thenS rel p).imp fun v H1 ⟨w1, d, η1, e, rel1, rv, p1⟩ => ?_
  split at p1
  · rename_i ρ' eb
    exact ⟨w1, ρ, d, ρ', rel1.env, rv, eb, fun σ' er _ _ => p1 σ' w1 H1 .refl ⟨er, rel1.heap⟩⟩
  · exact p1.elim
theorem ds_set (i : Nat) {x : Str} {pos' : Pos} (hN : X.N.Nodup) (he : DE X W e f) (hi : X.N[i]? = some x := by rfl) (hx : Loc X.env.scope x := by first | exact .inl rfl | exact .inr rfl) (hs : swapsWith e (some (.Name x pos')) pos.line X.env = pure false := by rfl)
    (hf : X.fn x = true ∨ X.env.scope.names.lookup x = some .local := by first | exact .inl rfl | exact .inr rfl | assumption) : DS X W (.Assign [.Name x pos'] e pos) (sAsg f (bN i)) :=
  PS.imp (ps_set hN hi hx he hs hf) fun E σ H ⟨w, ρ, η, rel, p⟩ => by
    refine (rdE_thenS rel p).imp fun v H1 ⟨w1, d, η1, e, rel1, rv, p1⟩ => p1 _ w1 H1 .refl ⟨rel1.env.set rv, rel1.heap⟩
theorem ds_asg {tg : Expr} {sl : List Nat} {b : TGt} (hg : DG X sl tg b) (he : DE X W e f) (hs : swapsWithSole [tg] e pos.line X.env = pure false := by rfl) (hw : swappedStores [tg] e X.env = pure none := by rfl)
    (h1 : (assignEach [tg] X.env).map (·.2) = [assign tg X.env] := by rfl) : DS X W (.Assign [tg] e pos) (sAsg f b) :=
  PS.imp (ps_asg he hg hs hw h1) fun _ _ _ => asg_reads
/-- a, b = x, y: two different local names -/
def sPar (i j : Nat) (fa fb : FE) : FS := fun ρ η => (fa ρ η).bindS ρ fun x η => (fb ρ η).bindS ρ fun y η => .nx ((ρ.set i (some x)).set j (some y)) η
theorem ds_par (i j : Nat) {x y : Str} {px py pt : Pos} {kt k2 pt2} (hc : X.calm = true) (hN : X.N.Nodup) (ha : DE X W a fa) (hb : DE X W b fb) (hi : X.N[i]? = some x := by rfl) (hj : X.N[j]? = some y := by rfl) (hij : i ≠ j := by decide)
    (hx : X.env.scope.names.lookup x = some .local := by rfl) (hy : X.env.scope.names.lookup y = some .local := by rfl)
    (hw : swappedStores [.Tuple [.Name x px, .Name y py] kt pt] (.Tuple [a, b] k2 pt2) X.env = pure (some [x, y]) := by rfl)
    (hs : swapsWithSole [.Tuple [.Name x px, .Name y py] kt pt] (.Tuple [a, b] k2 pt2) pos.line X.env = pure false := by rfl)
    (h1 : starEach [a, b] X.env = (false, eval a X.env) :: starEach [b] X.env := by rfl) (h2 : starEach [b] X.env = (false, eval b X.env) :: starEach [] X.env := by rfl) :
    DS X W (.Assign [.Tuple [.Name x px, .Name y py] kt pt] (.Tuple [a, b] k2 pt2) pos) (sPar i j fa fb) :=
  PS.imp (ps_par hc hN hi hj hij hx hy (pa_cons ha (pa_cons hb pa_nil h2) h1) hw hs) fun E σ H ⟨w, ρ, η, rel, p⟩ => by
    refine (rdE_thenS rel p).imp fun v H1 ⟨w1, d, η1, e, rel1, rv, p1⟩ => ?_
    refine (rdE_thenS rel1 p1).imp fun u H2 ⟨w2, d2, η2, e2, rel2, rv2, p2⟩ => ?_
    exact ⟨_, _, rfl, p2 _ w2 H2 .refl ⟨(rel2.env.set (rv.ext e2)).set rv2, rel2.heap⟩⟩
/-- x op= e at a name -/
def sAug (i : Nat) (g : G2) (f : FE) : FS := fun ρ η => match ρ[i]? with
  | some (some x) => (f ρ η).bindS ρ fun y η => (liftO (g x y η)).bindS ρ fun z η => .nx (ρ.set i (some z)) η
  | _ => .no
theorem ds_aug (i : Nat) {x : Str} {op : Operator} {g : G2} {pos' : Pos} (hN : X.N.Nodup) (he : DE X W e f) (ho : OpR X (inplaceOp op) (rd2 X.K g)) (hi : X.N[i]? = some x := by rfl) (hx : Loc X.env.scope x := by first | exact .inl rfl | exact .inr rfl)
    (hf : X.fn x = true ∨ X.env.scope.names.lookup x = some .local := by first | exact .inl rfl | exact .inr rfl | assumption) : DS X W (.AugAssign (.Name x pos') op e pos) (sAug i g f) :=
  PS.imp (ps_aug hN hi hx he (fun pins s σ H x y v u Q I rx ry q => ho pins s σ H x y v u Q I rx ry q) hf) fun E σ H ⟨w, ρ, η, rel, p⟩ => by
    unfold sAug at p
    split at p
    · rename_i d ed
      obtain ⟨v, ev, rv⟩ := rel.env.at_ i d ed
      refine ⟨v, ev, (rdE_thenS rel p).imp fun u H1 ⟨w1, d1, η1, e1, rel1, ru, p1⟩ => ?_⟩
      refine ⟨w1, η1, d, d1, rel1.heap, rv.ext e1, ru, ?_⟩
      refine ((PostS.bind (rep := RepV X.K) rel1.env p1).imp fun z H2 ⟨w2, dz, η2, e2, rel2, rz, p2⟩ => ?_).lift
      exact p2 _ w2 H2 .refl ⟨rel2.env.set rz, rel2.heap⟩
    · exact p.elim

/-! ### what is walked -/
inductive Src where
  | val (xs : List D)
  /-- some (some x): the turn's item; some none: the end -/
  | dyn (f : Nat → Store → Option (Option D))
def Src.at : Src → Nat → Store → Option D
  | .val xs, i, _ => xs[i]?
  | .dyn f, i, η => match f i η with
    | some (some x) => some x
    | _ => none
def Src.fin : Src → Nat → Store → Prop
  | .val xs, i, _ => xs.length = i
  | .dyn f, i, η => f i η = some none
def objAt (k : Nat) : Nat → Store → Option (Option D) := fun i η => match η[k]? with
  | some (.lst xs) => if i ≤ xs.length then some xs[i]? else none
  | _ => none
structure ItOk (K : PySem.W.Frag) (J : It) (src : Src) (w0 : Wd) (H0 : Hp) : Prop where
  go : ∀ i w H η x, Ext w0 H0 w H → HeapRel K w H η → src.at i η = some x → J.go i H ∧ ∀ v H', J.yld i H v H' → Ext w H w H' ∧ HeapRel K w H' η ∧ RepV K w H' v x
  stop : ∀ i w H η, Ext w0 H0 w H → HeapRel K w H η → src.fin i η → J.stop i H
abbrev FI := Env → Store → R Src
def rdI (K : PySem.W.Frag) (W : WX) (f : FI) : TI := fun σ H Q => ∃ w ρ η, Rel K w σ H ρ η ∧ Post K (fun w H J src => ItOk K J src w H) w H Q (fun c d H' => W c d σ H') (f ρ η)
abbrev DI (X : Cx) (W : WX) (tg e : Expr) (f : FI) : Prop := PI X tg e (rdI X.K W f)
theorem PI.imp {tg e : Expr} {t t' : TI} (h : PI X tg e t) (m : ∀ σ H Q, t' σ H Q → t σ H Q) : PI X tg e t' := ⟨fun pins s σ H Q I q => h.run pins s σ H Q I (m σ H Q q)⟩
theorem itOk_tup {a : Addr} {xs : List V} {ds : List D} (hs : ∀ w' H', Ext w H w' H' → SqT K H' a xs) (r : RepVs K w H xs ds) : ItOk K (Itt K a) (.val ds) w H := by
  refine ⟨fun i w1 H1 η x e hr hx => ?_, fun i w1 H1 η e hr hf => ⟨xs, hs _ _ e, by rw [r.length]; exact Nat.le_of_eq hf⟩⟩
  obtain ⟨v, hv, rv⟩ := r.get (show ds[i]? = some x from hx)
  refine ⟨⟨xs, v, hs _ _ e, hv⟩, fun u H2 ⟨eH, hy⟩ => ?_⟩
  subst eH
  have q := hy xs (hs _ _ e)
  rw [hv] at q; cases q
  exact ⟨.refl, hr, rv.ext e⟩
theorem itOk_lst {a : Addr} {xs : List V} {ds : List D} (hs : ∀ w' H', Ext w H w' H' → SqL K H' a xs) (r : RepVs K w H xs ds) : ItOk K (Itl K a) (.val ds) w H := by
  refine ⟨fun i w1 H1 η x e hr hx => ?_, fun i w1 H1 η e hr hf => ⟨xs, hs _ _ e, by rw [r.length]; exact Nat.le_of_eq hf⟩⟩
  obtain ⟨v, hv, rv⟩ := r.get (show ds[i]? = some x from hx)
  refine ⟨⟨xs, v, hs _ _ e, hv⟩, fun u H2 ⟨eH, hy⟩ => ?_⟩
  subst eH
  have q := hy xs (hs _ _ e)
  rw [hv] at q; cases q
  exact ⟨.refl, hr, rv.ext e⟩
theorem itOk_obj {a : Addr} {k : Nat} (ha : w.io[k]? = some a) : ItOk K (Itl K a) (.dyn (objAt k)) w H := by
  refine ⟨fun i w1 H1 η x e hr hx => ?_, fun i w1 H1 η e hr hf => ?_⟩
  · dsimp only [Src.at, objAt] at hx
    cases eo : η[k]? with
    | none => rw [eo] at hx; cases hx
    | some ob =>
      rw [eo] at hx
      cases ob with
      | lst ds =>
        obtain ⟨xs, eH, r⟩ := hr.at_ _ _ _ (e.toMv.get ha) eo
        dsimp only at hx
        split at hx
        case h_2 => cases hx
        rename_i y ed
        split at ed
        case isFalse => cases ed
        replace ed := Option.some.inj ed
        · cases hx
          obtain ⟨v, hv, rv⟩ := r.get ed
          refine ⟨⟨xs, v, SqL.of eH, hv⟩, fun u H2 ⟨eH2, hy⟩ => ?_⟩
          subst eH2
          have q := hy xs (SqL.of eH)
          rw [hv] at q; cases q
          exact ⟨.refl, hr, rv⟩
      | _ => cases hx
  · dsimp only [Src.fin, objAt] at hf
    cases eo : η[k]? with
    | none => rw [eo] at hf; cases hf
    | some ob =>
      rw [eo] at hf
      cases ob with
      | lst ds =>
        obtain ⟨xs, eH, r⟩ := hr.at_ _ _ _ (e.toMv.get ha) eo
        dsimp only at hf
        split at hf
        · exact ⟨xs, SqL.of eH, by rw [r.length]; exact List.getElem?_eq_none_iff.mp (Option.some.inj hf)⟩
        · cases hf
      | _ => cases hf
/-- iter(v) of a list, a tuple, a text, by values -/
theorem iter_list {tg : Expr} {pins : List (Addr × Obj)} {σ : L2.St} {H : Hp} {s : Shared} {R : It → Hp → Prop} {E : Value → Shared → Prop} {a : Addr} {xs : List V} (I : Inv X pins σ H s) (hq : SqL X.K H a xs) (q : R (Itl X.K a) H) :
    wpAny (model X.prog X.w) X.A (pyIter (.ref a)) (PIE X pins σ tg R) E s := by
  obtain ⟨its, rv, p, hz⟩ := I.list hq
  refine wpAny_pyIter_list p.isList ?_
  refine ⟨s.heap.objs.size, [s.heap.objs.size], _, _, H, rfl, I.kept (t' := s.toks) fun b o e => Heap.get?_push_of_some _ e, turn_list a _, ⟨_, Heap.get?_push_size _ rfl, rfl, rfl⟩, fun b hb => ?_, q⟩
  have e : b = s.heap.objs.size := by simpa using hb
  subst e
  exact I.fpOk (Nat.le_refl _) (I.hok.fresh (Nat.le_refl _))
theorem iter_tup {tg : Expr} {pins : List (Addr × Obj)} {σ : L2.St} {H : Hp} {s : Shared} {R : It → Hp → Prop} {E : Value → Shared → Prop} {a : Addr} {xs : List V} (I : Inv X pins σ H s) (hq : SqT X.K H a xs) (q : R (Itt X.K a) H) :
    wpAny (model X.prog X.w) X.A (pyIter (.ref a)) (PIE X pins σ tg R) E s := by
  obtain ⟨its, rv, p, hz⟩ := I.tuple hq
  refine wpAny_pyIter_tuple (show s.heap.IsTuple a its.toArray from p) ?_
  refine ⟨s.heap.objs.size, [s.heap.objs.size], _, _, H, rfl, I.kept (t' := s.toks) fun b o e => Heap.get?_push_of_some _ e, turn_tuple a _, ⟨_, Heap.get?_push_size _ rfl, rfl, rfl⟩, fun b hb => ?_, q⟩
  have e : b = s.heap.objs.size := by simpa using hb
  subst e
  exact I.fpOk (Nat.le_refl _) (I.hok.fresh (Nat.le_refl _))
theorem iter_str {tg : Expr} {pins : List (Addr × Obj)} {σ : L2.St} {H : Hp} {s : Shared} {R : It → Hp → Prop} {E : Value → Shared → Prop} {x : Str} {t : Tok} (I : Inv X pins σ H s) (q : R (Its x) H) :
    wpAny (model X.prog X.w) X.A (pyIter (.str x t)) (PIE X pins σ tg R) E s := by
  cases ha : x.cps.all (· < 128)
  · exact wpAny_pyIter_wide ha (pi_one (tk := s.toks) I _ (turn_str _ x t "str_iterator" (.inr rfl)) ⟨_, Heap.get?_push_size _ rfl, rfl, rfl⟩ q)
  · exact wpAny_pyIter_ascii ha (pi_one (tk := s.toks) I _ (turn_str _ x t "str_ascii_iterator" (.inl rfl)) ⟨_, Heap.get?_push_size _ rfl, rfl, rfl⟩ q)
def srcOf : D → Store → Option Src
  | .tup xs, _ => some (.val xs)
  | .lst xs, _ => some (.val xs)
  | .scr xs, _ => some (.val xs)
  | .str x, _ => some (.val (x.cps.toList.map fun c => .str ⟨#[c]⟩))
  | .obj k, η => match η[k]? with
    | some (.lst _) => some (.dyn (objAt k))
    | _ => none
  | _, _ => none
def iVal (f : FE) : FI := fun ρ η => (f ρ η).bind fun d η => match srcOf d η with
  | some s => .ok s η
  | none => .no
theorem itOk_str {x : Str} : ItOk K (Its x) (.val (x.cps.toList.map fun c => .str ⟨#[c]⟩)) w H := by
  refine ⟨fun i w1 H1 η y e hr hx => ?_, fun i w1 H1 η e hr hf => ?_⟩
  · have hx' : (x.cps.toList.map fun c => D.str ⟨#[c]⟩)[i]? = some y := hx
    rw [List.getElem?_map] at hx'
    cases ec : x.cps.toList[i]? with
    | none => rw [ec] at hx'; cases hx'
    | some c =>
      rw [ec] at hx'
      cases hx'
      have ec' : x.cps[i]? = some c := by simpa using ec
      refine ⟨(Array.getElem?_eq_some_iff.mp ec').1, fun v H2 ⟨e1, c', hc, ev⟩ => ?_⟩
      subst e1 ev
      rw [ec'] at hc; cases hc
      exact ⟨.refl, hr, .str _⟩
  · have : (x.cps.toList.map fun c => D.str ⟨#[c]⟩).length ≤ i := Nat.le_of_eq hf
    show x.cps.size ≤ i
    simpa using this
theorem di_val {tg : Expr} (h : DE X W e f) : DI X W tg e (iVal f) := by
  refine ⟨fun pins s σ H R I ⟨w, ρ, η, rel, p⟩ => ?_⟩
  refine thn (h.run pins s σ H _ I (rdE_then rel p)) fun v s1 ⟨x, H1, I1, r1, w1, d, η1, e1, rel1, rv, p1⟩ => ?_
  cases rv with
  | tup hs rr => cases r1; exact iter_tup I1 hs.sq (p1 _ w1 H1 .refl rel1.heap (itOk_tup (fun _ _ e => (hs.ext e).sq) rr))
  | lst hs rr => cases r1; exact iter_list I1 hs.sq (p1 _ w1 H1 .refl rel1.heap (itOk_lst (fun _ _ e => (hs.ext e).sq) rr))
  | scr hs rr => cases r1; exact iter_list I1 hs.sq (p1 _ w1 H1 .refl rel1.heap (itOk_lst (fun _ _ e => (hs.ext e).sq) rr))
  | str y => obtain ⟨t, rfl⟩ := r1; exact iter_str I1 (p1 _ w1 H1 .refl rel1.heap itOk_str)
  | @obj i a ha =>
    cases r1
    dsimp only [srcOf] at p1
    cases eo : η1[i]? with
    | none => rw [eo] at p1; exact p1.elim
    | some ob =>
      rw [eo] at p1
      cases ob with
      | lst ds =>
        obtain ⟨xs, eH, _⟩ := rel1.heap.at_ _ _ _ ha eo
        exact iter_list I1 (SqL.of eH) (p1 _ w1 H1 .refl rel1.heap (itOk_obj ha))
      | _ => exact p1.elim
  | _ => exact p1.elim

/-! ### for -/
def forL (b : TGt) (body : FS) : List D → Env → Store → RS
  | [], ρ, η => .nx ρ η
  | x :: r, ρ, η => match b x ρ with
    | none => .no
    | some ρ => match body ρ η with
      | .nx ρ η => forL b body r ρ η
      | .cnt ρ η => forL b body r ρ η
      | .brk ρ η => .nx ρ η
      | r => r
def forO (b : TGt) (body : FS) (at_ : Nat → Store → Option (Option D)) : Nat → Nat → Env → Store → RS
  | 0, _, _, _ => .no
  | m + 1, i, ρ, η => match at_ i η with
    | none => .no
    | some none => .nx ρ η
    | some (some x) => match b x ρ with
        | none => .no
        | some ρ => match body ρ η with
          | .nx ρ η => forO b body at_ m (i + 1) ρ η
          | .cnt ρ η => forO b body at_ m (i + 1) ρ η
          | .brk ρ η => .nx ρ η
          | r => r
def sFor (N : Nat) (fi : FI) (b : TGt) (body : FS) : FS := fun ρ η => (fi ρ η).bindS ρ fun src η => match src with
  | .val xs => forL b body xs ρ η
  | .dyn f => forO b body f N 0 ρ η
/-- a body's turn -/
theorem turn_reads {E : Ends} {Nx : L2.St → Hp → Prop} {k : Env → Store → RS} (rel : Rel K w σ H ρ η)
    (h : PostS K w H E W (match fs ρ η with | .nx ρ η => k ρ η | .cnt ρ η => k ρ η | .brk ρ η => .nx ρ η | r => r))
    (hn : ∀ ρ' η' σ' w' H', Ext w H w' H' → Rel K w' σ' H' ρ' η' → PostS K w' H' E W (k ρ' η') → Nx σ' H') : rdS K W fs { E with nx := Nx, ct := Nx, bk := E.nx } σ H := by
  refine ⟨w, ρ, η, rel, ?_⟩
  cases e : fs ρ η with
  | nx ρ' η' => rw [e] at h; exact fun σ' w' H' e' r => hn ρ' η' σ' w' H' e' r (PostS.weak e' h)
  | cnt ρ' η' => rw [e] at h; exact fun σ' w' H' e' r => hn ρ' η' σ' w' H' e' r (PostS.weak e' h)
  | brk ρ' η' => rw [e] at h; exact h
  | ret d η' => rw [e] at h; exact h
  | exc x ρ' η' => rw [e] at h; exact h
  | no => rw [e] at h; exact h
theorem for_reads {E : Ends} {N : Nat} {fi : FI} {sl : List Nat} {b : TGt} (h : rdS K W (sFor N fi b fs) E σ H) : tFor (rdI K W fi) (rdG K sl b) (rdS K W fs) E σ H := by
  obtain ⟨w, ρ, η, rel, p⟩ := h
  refine ⟨w, ρ, η, rel, (PostS.bind (rep := fun w H J src => ItOk K J src w H) rel.env p).imp fun J H1 ⟨w1, src, η1, e1, rel1, io, p1⟩ => ?_⟩
  cases src with
  | val xs =>
    refine ⟨fun i m σ H => ∃ w ρ η, Ext w1 H1 w H ∧ Rel K w σ H ρ η ∧ m = xs.length - i ∧ i ≤ xs.length ∧ PostS K w H E W (forL b fs (xs.drop i) ρ η), ⟨_, w1, ρ, η1, .refl, rel1, rfl, Nat.zero_le _, p1⟩, fun i m σ2 H2 ⟨w2, ρ2, η2, e2, rel2, em, hi, p2⟩ => ?_⟩
    cases ex : xs[i]? with
    | none =>
      have hl : xs.length ≤ i := List.getElem?_eq_none_iff.mp ex
      rw [List.drop_eq_nil_of_le hl] at p2
      exact .inl ⟨io.stop i w2 H2 η2 e2 rel2.heap (Nat.le_antisymm hl hi), p2 σ2 w2 H2 .refl rel2⟩
    | some x =>
      obtain ⟨hl, ex'⟩ := List.getElem?_eq_some_iff.mp ex
      have ed : xs.drop i = x :: xs.drop (i + 1) := by rw [List.drop_eq_getElem_cons hl, ex']
      rw [ed] at p2
      obtain ⟨g, y⟩ := io.go i w2 H2 η2 x e2 rel2.heap ex
      refine .inr ⟨g, fun σ' H' => ∃ w ρ η, Ext w1 H1 w H' ∧ Rel K w σ' H' ρ η ∧ PostS K w H' E W (forL b fs (xs.drop (i + 1)) ρ η), fun σ' H' ⟨w', ρ', η', e', r', q'⟩ => ⟨xs.length - (i + 1), by omega, w', ρ', η', e', r', rfl, hl, q'⟩, fun v H3 hy => ?_⟩
      obtain ⟨e3, hr3, rv⟩ := y v H3 hy
      dsimp only [forL] at p2
      cases eb : b x ρ2 with
      | none => rw [eb] at p2; exact p2.elim
      | some ρ3 =>
        rw [eb] at p2
        refine ⟨w2, ρ2, x, ρ3, rel2.env.ext e3, rv, eb, fun σ3 er3 _ _ => ?_⟩
        exact turn_reads ⟨er3, hr3⟩ (PostS.weak e3 p2) fun ρ' η' σ' w' H' e' r' q' => ⟨w', ρ', η', (e2.trans e3).trans e', r', q'⟩
  | dyn f =>
    refine ⟨fun i m σ H => ∃ w ρ η, Ext w1 H1 w H ∧ Rel K w σ H ρ η ∧ PostS K w H E W (forO b fs f m i ρ η), ⟨_, w1, ρ, η1, .refl, rel1, p1⟩, fun i m σ2 H2 ⟨w2, ρ2, η2, e2, rel2, p2⟩ => ?_⟩
    cases m with
    | zero => exact p2.elim
    | succ m =>
      dsimp only [forO] at p2
      cases eo : f i η2 with
      | none => rw [eo] at p2; exact p2.elim
      | some ob =>
        rw [eo] at p2
        cases ob with
        | none => exact .inl ⟨io.stop i w2 H2 η2 e2 rel2.heap eo, p2 σ2 w2 H2 .refl rel2⟩
        | some x =>
            obtain ⟨g, y⟩ := io.go i w2 H2 η2 x e2 rel2.heap (by dsimp only [Src.at]; rw [eo])
            refine .inr ⟨g, fun σ' H' => ∃ w ρ η, Ext w1 H1 w H' ∧ Rel K w σ' H' ρ η ∧ PostS K w H' E W (forO b fs f m (i + 1) ρ η), fun σ' H' ⟨w', ρ', η', e', r', q'⟩ => ⟨m, by omega, w', ρ', η', e', r', q'⟩, fun v H3 hy => ?_⟩
            obtain ⟨e3, hr3, rv⟩ := y v H3 hy
            dsimp only at p2
            cases eb : b x ρ2 with
            | none => rw [eb] at p2; exact p2.elim
            | some ρ3 =>
              rw [eb] at p2
              refine ⟨w2, ρ2, x, ρ3, rel2.env.ext e3, rv, eb, fun σ3 er3 _ _ => ?_⟩
              exact turn_reads ⟨er3, hr3⟩ (PostS.weak e3 p2) fun ρ' η' σ' w' H' e' r' q' => ⟨w', ρ', η', (e2.trans e3).trans e', r', q'⟩
theorem ds_for {N : Nat} {tg iter : Expr} {body : List Stmt} {fi : FI} {sl : List Nat} {b : TGt} (hp : PassesOwn (model X.prog X.w) X.A X.env X.xe) (hc : X.calm = true) (hi : DI X W tg iter fi) (hg : DG X sl tg b) (hb : DSs X W body fs)
    (hs : ∀ x, foldedSetIterable iter X.env x = pure x := by intro _; rfl) : DS X W (.For tg iter body [] pos) (sFor N fi b fs) := PS.imp (ps_for hp hc hi hg hb hs) fun _ _ _ => for_reads
/-! ### while -/
def whl (c : FT) (body : FS) : Nat → Env → Store → RS
  | 0, _, _ => .no
  | m + 1, ρ, η => (c ρ η).bindS ρ fun b η => if b = true then (match body ρ η with
      | .nx ρ η => whl c body m ρ η
      | .cnt ρ η => whl c body m ρ η
      | .brk ρ η => .nx ρ η
      | r => r) else .nx ρ η
theorem ds_while {N : Nat} {body : List Stmt} (hp : PassesOwn (model X.prog X.w) X.A X.env X.xe) (hc : DT X W c s) (hb : DSs X W body fs) : DS X W (.While c body [] pos) (whl s fs N) :=
  PS.imp (ps_while hp hc hb) fun E σ H ⟨w, ρ, η, rel, p⟩ => by
    refine ⟨fun m σ H => ∃ w ρ η, Rel X.K w σ H ρ η ∧ PostS X.K w H E W (whl s fs m ρ η), ⟨N, w, ρ, η, rel, p⟩, fun m σ2 H2 ⟨w2, ρ2, η2, rel2, p2⟩ => ?_⟩
    cases m with
    | zero => exact p2.elim
    | succ m =>
      dsimp only [whl] at p2
      obtain ⟨w3, ρ3, η3, rel3, q⟩ := rdT_thenS rel2 p2
      refine ⟨w3, ρ3, η3, rel3, q.imp fun b H1 ⟨w1, η1, e, rel1, p1⟩ => ?_⟩
      cases b with
      | false => exact iteF (p1 σ2 w1 H1 .refl rel1)
      | true =>
        refine iteT ⟨fun σ' H' => ∃ w ρ η, Rel X.K w σ' H' ρ η ∧ PostS X.K w H' E W (whl s fs m ρ η), fun σ' H' ⟨w', ρ', η', r', q'⟩ => ⟨m, by omega, w', ρ', η', r', q'⟩, ?_⟩
        exact turn_reads rel1 p1 fun ρ' η' σ' w' H' e' r' q' => ⟨w', ρ', η', r', q'⟩

/-! ### list comprehensions -/
def wipeD (ρ : Env) : List Nat → Env
  | [] => ρ
  | v :: vs => (wipeD ρ vs).set v none
theorem EnvRel.wipe (h : EnvRel K w σ H ρ) : ∀ vs : List Nat, EnvRel K w (wipe σ vs) H (wipeD ρ vs)
  | [] => h
  | v :: vs => by
    have ih := EnvRel.wipe h vs
    refine ⟨by simp [wipeD, L2.wipe, ih.len], fun i d e => ?_⟩
    dsimp only [wipeD, L2.wipe] at e ⊢
    by_cases hi : i = v
    · subst hi
      rw [List.getElem?_set] at e
      simp at e
    · rw [List.getElem?_set_ne (Ne.symm hi)] at e ⊢
      exact ih.at_ i d e
/-- an error within is none of ours -/
def nx {α : Type} : R α → R α
  | .ok a η => .ok a η
  | _ => .no
def cmp (b : TGt) (t : FT) (e : FE) (ρ : Env) : List D → Store → R (List D)
  | [], η => .ok [] η
  | x :: r, η => match b x ρ with
    | none => .no
    | some ρ1 => (t ρ1 η).bind fun k η => if k = true then (e ρ1 η).bind fun y η => (cmp b t e ρ r η).bind fun ys η => .ok (y :: ys) η else cmp b t e ρ r η
def cmpO (b : TGt) (t : FT) (e : FE) (ρ : Env) (at_ : Nat → Store → Option (Option D)) : Nat → Nat → Store → R (List D)
  | 0, _, _ => .no
  | m + 1, i, η => match at_ i η with
    | none => .no
    | some none => .ok [] η
    | some (some x) => match b x ρ with
        | none => .no
        | some ρ1 => (t ρ1 η).bind fun q η => if q = true then (e ρ1 η).bind fun y η => (cmpO b t e ρ at_ m (i + 1) η).bind fun ys η => .ok (y :: ys) η else cmpO b t e ρ at_ m (i + 1) η
def cmpS (N : Nat) (src : Src) (b : TGt) (t : FT) (e : FE) (ρ : Env) (η : Store) : R (List D) := match src with
  | .val xs => cmp b t e ρ xs η
  | .dyn f => cmpO b t e ρ f N 0 η
def yes : FT := fun _ η => .ok true η
/-- the list as a value -/
def lc (N : Nat) (vs : List Nat) (fi : FI) (b : TGt) (t : FT) (e : FE) : FE := fun ρ η => (fi ρ η).bind fun src η => (nx (cmpS N src b t e (wipeD ρ vs) η)).bind fun ys η => if ys.length ≤ sizeLine then .ok (.lst ys) η else .no
/-- the list as a thing that may change -/
def lcO (N : Nat) (vs : List Nat) (fi : FI) (b : TGt) (t : FT) (e : FE) : FE := fun ρ η => (fi ρ η).bind fun src η => (nx (cmpS N src b t e (wipeD ρ vs) η)).bind fun ys η => if ys.length ≤ sizeLine then .ok (.obj η.length) (η ++ [.lst ys]) else .no
abbrev WF : WX := fun _ _ _ _ => False
end
end Dn
/-! Dn part 4: comprehensions read; defs. -/
namespace Dn
open PySem PySem.Spec PyProof.Rows L2
section
variable {X : Cx} {W : WX} {K : PySem.W.Frag} {w w1 w2 w' : Wd} {σ : L2.St} {H H1 H2 H' : Hp} {ρ ρ0 : Env} {η η1 η' : Store} {f te : FE} {s : FT} {vs sl : List Nat} {b : TGt} {ys : List D} {Dd : Addr}
/-- a list that is being made changes -/
theorem Mv.busy {o : HO} (hb : Dd ∈ w.bz) : Mv w H w (upd H Dd o) := ⟨⟨[], by simp⟩, fun c u h m n => ⟨by
  rw [upd_ne]
  · exact h
  · intro q; subst q; exact n hb, m, n⟩⟩
theorem Ext.busy {o : HO} (ex : Ext w1 H1 w H) (hn : H1 Dd = none) (hb1 : Dd ∉ w1.bz) : Ext w1 H1 w (upd H Dd o) :=
  ⟨⟨ex.pre, fun c u h m n => let ⟨a1, a2, a3⟩ := ex.keep c u h m n; ⟨by rw [upd_ne (ne_of_none h hn)]; exact a1, a2, a3⟩⟩, fun c hc => ⟨(ex.bz c hc).1, by
    rw [upd_ne]
    · exact (ex.bz c hc).2
    · intro q; subst q; exact hb1 hc⟩⟩
theorem HeapRel.busy {o : HO} (hr : HeapRel K w H η) (hb : Dd ∈ w.bz) : HeapRel K w (upd H Dd o) η := by
  refine ⟨hr.len, hr.nd, fun i a ob ha ho => (hr.at_ i a ob ha ho).mv (Mv.busy hb) ?_, fun c hc => ⟨(hr.bz c hc).1, ?_⟩⟩
  · rw [upd_ne]
    intro q; subst q
    exact (hr.bz _ hb).1 (List.mem_of_getElem? ha)
  · by_cases q : c = Dd
    · subst q; exact ⟨_, upd_same⟩
    · rw [upd_ne q]; exact (hr.bz c hc).2
/-- inside: worlds w1 (ahead), then on; the list at Dd is being made -/
structure Mk (K : PySem.W.Frag) (w1 : Wd) (H1 : Hp) (ρ0 : Env) (Dd : Addr) (η' : Store) (ys : List D) (rest : Store → R (List D)) (H : Hp) : Prop where
  ex : ∃ w η acc accV ys', Ext w1 H1 w H ∧ Dd ∈ w.bz ∧ HeapRel K w H η ∧ H Dd = some (.lst accV) ∧ RepVs K w H accV acc ∧ rest η = .ok ys' η' ∧ acc ++ ys' = ys
theorem ok_bind {α β : Type} {r : R α} {k : α → Store → R β} {a : β} {η : Store} (h : r.bind k = .ok a η) : ∃ x η1, r = .ok x η1 ∧ k x η1 = .ok a η := by
  cases r with
  | ok x η1 => exact ⟨x, η1, rfl, h⟩
  | exc x η1 => cases h
  | no => cases h
theorem wipe_eq {σ1 σ2 : L2.St} (hl : σ2.length = σ1.length) : ∀ {vs : List Nat}, (∀ j, j ∉ vs → σ2[j]? = σ1[j]?) → wipe σ2 vs = wipe σ1 vs := by
  intro vs h
  have one : ∀ (vs : List Nat) (j : Nat), j ∈ vs → j < σ1.length → (wipe σ2 vs)[j]? = (wipe σ1 vs)[j]? := by
    intro vs
    induction vs with
    | nil => intro j hj; cases hj
    | cons v vs ih =>
      intro j hj hlt
      dsimp only [wipe]
      by_cases e : j = v
      · subst e
        rw [List.getElem?_set_self (by rw [wipe_length, hl]; exact hlt), List.getElem?_set_self (by rw [wipe_length]; exact hlt)]
      · rw [List.getElem?_set_ne (Ne.symm e), List.getElem?_set_ne (Ne.symm e)]
        rcases List.mem_cons.mp hj with q | q
        · exact absurd q e
        · exact ih j q hlt
  refine List.ext_getElem? fun j => ?_
  by_cases hj : j ∈ vs
  · by_cases hlt : j < σ1.length
    · exact one vs j hj hlt
    · rw [List.getElem?_eq_none (by rw [wipe_length, hl]; omega), List.getElem?_eq_none (by rw [wipe_length]; omega)]
  · rw [wipe_out hj, wipe_out hj]; exact h j hj
/-- one turn -/
theorem mk_turn (hn : H1 Dd = none) (hb1 : Dd ∉ w1.bz) {rest : Store → R (List D)} {x : D} {v : V} {ys' acc : List D} {accV : List V} {ρ1 : Env} (hsub : ∀ j ∈ sl, j ∈ vs) (env : EnvRel K w (wipe σ vs) H ρ0) (ex : Ext w1 H1 w H) (hb : Dd ∈ w.bz) (hr : HeapRel K w H η)
    (hD : H Dd = some (.lst accV)) (ra : RepVs K w H accV acc) (rv : RepV K w H v x) (eb : b x ρ0 = some ρ1) (hz : ys.length ≤ sizeLine)
    (hs : ((s ρ1 η).bind fun q η => if q = true then (te ρ1 η).bind fun y η => (rest η).bind fun ys η => .ok (y :: ys) η else rest η) = .ok ys' η') (ey : acc ++ ys' = ys) :
    rdG K sl b v (wipe σ vs) H fun σ2 H2 => wipe σ2 vs = wipe σ vs ∧ rdT K WF s σ2 H2 fun b H3 =>
      if b = true then rdE K WF te σ2 H3 fun y H4 => ∃ acc, H4 Dd = some (.lst acc) ∧ acc.length < sizeLine ∧ Mk K w1 H1 ρ0 Dd η' ys rest (upd H4 Dd (.lst (acc ++ [y]))) else Mk K w1 H1 ρ0 Dd η' ys rest H3 := by
  refine ⟨w, ρ0, x, ρ1, env, rv, eb, fun σ2 er2 hl hf => ⟨?_, ?_⟩⟩
  · have e1 : wipe σ2 vs = wipe (wipe σ vs) vs := wipe_eq hl fun j hj => hf j fun z => hj (hsub j z)
    rw [e1]
    refine wipe_eq (wipe_length _ _) fun j hj => ?_
    rw [wipe_out hj]
  · obtain ⟨q, η2, e1, e2⟩ := ok_bind hs
    refine ⟨w, ρ1, η, ⟨er2, hr⟩, ?_⟩
    rw [e1]
    intro q' w3 H3 e3 hr3 eq
    subst eq
    have hb3 := (e3.bz Dd hb).1
    have hD3 : H3 Dd = some (.lst accV) := (e3.bz Dd hb).2.trans hD
    cases q' with
    | false => exact iteF ⟨w3, η2, acc, accV, ys', ex.trans e3, hb3, hr3, hD3, ra.ext e3, e2, ey⟩
    | true =>
      rw [if_pos rfl] at e2
      obtain ⟨y, η3, f1, f2⟩ := ok_bind e2
      obtain ⟨zs, η4, g1, g2⟩ := ok_bind f2
      cases g2
      refine iteT ⟨w3, ρ1, η2, ⟨er2.ext e3, hr3⟩, ?_⟩
      rw [f1]
      intro vy w4 H4 e4 hr4 rvy
      have hb4 := (e4.bz Dd hb3).1
      have hD4 : H4 Dd = some (.lst accV) := (e4.bz Dd hb3).2.trans hD3
      have ra4 : RepVs K w4 H4 accV acc := (ra.ext e3).ext e4
      have hlt : accV.length < sizeLine := by
        have : acc.length + 1 + zs.length ≤ sizeLine := by
          rw [← ey] at hz
          simp at hz
          omega
        rw [ra4.length]; omega
      refine ⟨accV, hD4, hlt, ⟨w4, η3, acc ++ [y], accV ++ [vy], zs, ?_, hb4, ?_, upd_same, ?_, g1, by rw [← ey]; simp⟩⟩
      · exact ((ex.trans e3).trans e4).busy hn hb1
      · exact hr4.busy hb4
      · exact (ra4.append (.one rvy)).mv (Mv.busy hb4)
/-- the making begins -/
theorem mk_start {r : Store → R (List D)} (hr : HeapRel K w1 H1 η1) (hn : H1 Dd = none) (e : r η1 = .ok ys η') : Mk K w1 H1 ρ0 Dd η' ys r (upd H1 Dd (.lst [])) := by
  have hnn := hr.new hn
  refine ⟨⟨w1.io, Dd :: w1.bz⟩, η1, [], [], ys, ?_, List.mem_cons_self, ?_, upd_same, .nil, e, rfl⟩
  · exact ⟨⟨⟨[], by simp⟩, fun c u h m n => ⟨by rw [upd_ne (ne_of_none h hn)]; exact h, m, fun q => by
      rcases List.mem_cons.mp q with q | q
      · subst q; rw [hn] at h; cases h
      · exact n q⟩⟩, fun c hc => ⟨List.mem_cons_of_mem _ hc, by obtain ⟨_, u, f⟩ := hr.bz c hc; rw [upd_ne (ne_of_none f hn)]⟩⟩
  · have m : Mv w1 H1 ⟨w1.io, Dd :: w1.bz⟩ (upd H1 Dd (.lst [])) := ⟨⟨[], by simp⟩, fun c u h m n => ⟨by rw [upd_ne (ne_of_none h hn)]; exact h, m, fun q => by
      rcases List.mem_cons.mp q with q | q
      · subst q; rw [hn] at h; cases h
      · exact n q⟩⟩
    refine ⟨hr.len, hr.nd, fun i a ob ha ho => (hr.at_ i a ob ha ho).mv m (upd_ne ?_), fun c hc => ?_⟩
    · intro q; subst q; exact hnn.1 (List.mem_of_getElem? ha)
    · rcases List.mem_cons.mp hc with q | q
      · subst q; exact ⟨hnn.1, _, upd_same⟩
      · obtain ⟨n, u, f⟩ := hr.bz c q
        exact ⟨n, u, by rw [upd_ne (ne_of_none f hn)]; exact f⟩
/-- the list is made: a value -/
theorem mk_done {ρ0 : Env} {Q : VK} (hr1 : HeapRel K w1 H1 η1) (hn : H1 Dd = none) (ex : Ext w1 H1 w H) (hb : Dd ∈ w.bz) (hr : HeapRel K w H η) {accV : List V} (hD : H Dd = some (.lst accV)) (ra : RepVs K w H accV ys)
    (q : ∀ v w' H', Ext w1 H1 w' H' → HeapRel K w' H' η → RepV K w' H' v (.lst ys) → Q v H') : Q (.ref Dd) H := by
  have hbs : ∀ c ∈ w1.bz, c ∈ w.bz := fun c hc => (ex.bz c hc).1
  have m : Mv w H ⟨w.io, w1.bz⟩ H := ⟨⟨[], by simp⟩, fun c u h m n => ⟨h, m, fun z => n (hbs c z)⟩⟩
  refine q _ ⟨w.io, w1.bz⟩ H ?_ ?_ (.lst ⟨hD, (hr.bz _ hb).1, (hr1.new hn).2⟩ (ra.mv m))
  · exact ⟨⟨ex.pre, fun c u h m n => let ⟨a1, a2, a3⟩ := ex.keep c u h m n; ⟨a1, a2, n⟩⟩, fun c hc => ⟨hc, (ex.bz c hc).2⟩⟩
  · exact ⟨hr.len, hr.nd, fun i a ob ha ho => (hr.at_ i a ob ha ho).mv m rfl, fun c hc => hr.bz c (hbs c hc)⟩
/-- .. a thing that may change -/
theorem mk_doneO {ρ0 : Env} {Q : VK} (hr1 : HeapRel K w1 H1 η1) (hn : H1 Dd = none) (ex : Ext w1 H1 w H) (hb : Dd ∈ w.bz) (hr : HeapRel K w H η) {accV : List V} (hD : H Dd = some (.lst accV)) (ra : RepVs K w H accV ys)
    (q : ∀ v w' H', Ext w1 H1 w' H' → HeapRel K w' H' (η ++ [.lst ys]) → RepV K w' H' v (.obj η.length) → Q v H') : Q (.ref Dd) H := by
  have hbs : ∀ c ∈ w1.bz, c ∈ w.bz := fun c hc => (ex.bz c hc).1
  have hnb := (hr1.new hn).2
  have m : Mv w H ⟨w.io ++ [Dd], w1.bz⟩ H := ⟨⟨[Dd], rfl⟩, fun c u h m n => ⟨h, fun z => by
    rcases List.mem_append.mp z with z | z
    · exact m z
    · have e : c = Dd := by simpa using z
      subst e; exact n hb, fun z => n (hbs c z)⟩⟩
  refine q _ ⟨w.io ++ [Dd], w1.bz⟩ H ?_ ?_ (.obj ?_)
  · exact ⟨⟨by obtain ⟨t, e⟩ := ex.pre; exact ⟨t ++ [Dd], by show w.io ++ [Dd] = _; rw [e, List.append_assoc]⟩, fun c u h m n => let ⟨a1, a2, a3⟩ := ex.keep c u h m n; ⟨a1, (by
      intro z
      rcases List.mem_append.mp z with z | z
      · exact a2 z
      · have e : c = Dd := by simpa using z
        subst e; rw [hn] at h; cases h), n⟩⟩, fun c hc => ⟨hc, (ex.bz c hc).2⟩⟩
  · refine ⟨by simp [hr.len], ?_, fun i a ob ha ho => ?_, fun c hc => ⟨fun z => ?_, (hr.bz c (hbs c hc)).2⟩⟩
    · exact List.nodup_append.mpr ⟨hr.nd, by simp, fun a ha c hc => by
        have e : c = Dd := by simpa using hc
        subst e
        intro z; subst z
        exact (hr.bz _ hb).1 ha⟩
    · by_cases hi : i < w.io.length
      · rw [List.getElem?_append_left hi] at ha
        rw [List.getElem?_append_left (hr.len ▸ hi)] at ho
        exact (hr.at_ i a ob ha ho).mv m rfl
      · have hi' : i = w.io.length := by
          have := (List.getElem?_eq_some_iff.mp ha).1
          simp at this; omega
        subst hi'
        rw [List.getElem?_append_right (Nat.le_refl _)] at ha
        rw [hr.len, List.getElem?_append_right (Nat.le_refl _)] at ho
        simp at ha ho
        subst ha ho
        exact ⟨accV, hD, ra.mv m⟩
    · rcases List.mem_append.mp z with z | z
      · exact (hr.bz c (hbs c hc)).1 z
      · have e : c = Dd := by simpa using z
        subst e; exact hnb hc
  · show (w.io ++ [Dd])[η.length]? = some Dd
    rw [← hr.len, List.getElem?_append_right (Nat.le_refl _)]
    simp
theorem nx_ok {r : R (List D)} {ys : List D} (h : nx r = .ok ys η') : r = .ok ys η' := by
  cases r <;> simp_all [nx]
/-- the whole comprehension, up to its end -/
theorem lc_reads {N : Nat} {fi : FI} {Q : VK} {k : List D → Store → R D} (hsub : ∀ j ∈ sl, j ∈ vs)
    (h : rdE K W (fun ρ η => (fi ρ η).bind fun src η => (nx (cmpS N src b s te (wipeD ρ vs) η)).bind fun ys η => if ys.length ≤ sizeLine then k ys η else .no) σ H Q)
    (fin : ∀ {w1 w : Wd} {H1 H : Hp} {η1 η : Store} {Dd : Addr} {accV : List V} {ys : List D}, HeapRel K w1 H1 η1 → H1 Dd = none → Ext w1 H1 w H → Dd ∈ w.bz → HeapRel K w H η → H Dd = some (.lst accV) → RepVs K w H accV ys →
      Post K (RepV K) w1 H1 Q (fun c d H' => W c d σ H') (k ys η) → Q (.ref Dd) H) :
    tLc (rdI K W fi) (rdG K sl b) (rdT K WF s) (rdE K WF te) vs σ H Q := by
  obtain ⟨w, ρ, η, rel, p⟩ := h
  refine ⟨w, ρ, η, rel, (Post.bind (rep := fun w H J src => ItOk K J src w H) p).imp fun J H1 ⟨w1, src, η1, e1, hr1, io, p1⟩ => ?_⟩
  intro Dd hn
  have hb1 := (hr1.new hn).2
  cases ec : nx (cmpS N src b s te (wipeD ρ vs) η1) with
  | exc x η' => exfalso; revert ec; cases cmpS N src b s te (wipeD ρ vs) η1 <;> simp [nx]
  | no => rw [ec] at p1; exact p1.elim
  | ok ys η' =>
    rw [ec] at p1
    replace p1 : Post K (RepV K) w1 H1 Q (fun c d H' => W c d σ H') (if ys.length ≤ sizeLine then k ys η' else .no) := p1
    split at p1
    case isFalse => exact p1.elim
    rename_i hz
    have ec := nx_ok ec
    have env0 : ∀ w' H', Ext w1 H1 w' H' → EnvRel K w' (wipe σ vs) H' (wipeD ρ vs) := fun w' H' e => ((rel.env.ext e1).ext e).wipe vs
    cases src with
    | val xs =>
      refine ⟨fun i m H => (m = xs.length - i ∧ i ≤ xs.length) ∧ Mk K w1 H1 (wipeD ρ vs) Dd η' ys (cmp b s te (wipeD ρ vs) (xs.drop i)) H, ⟨_, ⟨rfl, Nat.zero_le _⟩, mk_start hr1 hn ec⟩, fun i m H2 ⟨⟨em, hi⟩, ⟨w2, η2, acc, accV, ys', ex, hb, hr2, hD, ra, er, ey⟩⟩ => ?_⟩
      cases exi : xs[i]? with
      | none =>
        have hl : xs.length ≤ i := List.getElem?_eq_none_iff.mp exi
        rw [List.drop_eq_nil_of_le hl] at er
        cases er
        simp at ey
        subst ey
        exact .inl ⟨io.stop i w2 H2 η' ex hr2 (Nat.le_antisymm hl hi), fin hr1 hn ex hb hr2 hD ra p1⟩
      | some x =>
        obtain ⟨hl, ex'⟩ := List.getElem?_eq_some_iff.mp exi
        have ed : xs.drop i = x :: xs.drop (i + 1) := by rw [List.drop_eq_getElem_cons hl, ex']
        rw [ed] at er
        obtain ⟨g, y⟩ := io.go i w2 H2 η2 x ex hr2 exi
        refine .inr ⟨g, Mk K w1 H1 (wipeD ρ vs) Dd η' ys (cmp b s te (wipeD ρ vs) (xs.drop (i + 1))), fun H' q => ⟨xs.length - (i + 1), by omega, ⟨rfl, hl⟩, q⟩, fun v H3 hy => ?_⟩
        obtain ⟨e3, hr3, rv⟩ := y v H3 hy
        dsimp only [cmp] at er
        cases eb : b x (wipeD ρ vs) with
        | none => rw [eb] at er; cases er
        | some ρ3 =>
          rw [eb] at er
          exact mk_turn hn hb1 hsub (env0 _ _ (ex.trans e3)) (ex.trans e3) (e3.bz _ hb).1 hr3 ((e3.bz _ hb).2.trans hD) (ra.ext e3) rv eb hz er ey
    | dyn f =>
      refine ⟨fun i m H => Mk K w1 H1 (wipeD ρ vs) Dd η' ys (cmpO b s te (wipeD ρ vs) f m i) H, ⟨_, mk_start hr1 hn ec⟩, fun i m H2 ⟨w2, η2, acc, accV, ys', ex, hb, hr2, hD, ra, er, ey⟩ => ?_⟩
      cases m with
      | zero => cases er
      | succ m =>
        dsimp only [cmpO] at er
        cases eo : f i η2 with
        | none => rw [eo] at er; cases er
        | some ob =>
          rw [eo] at er
          cases ob with
          | none =>
            cases er
            simp at ey
            subst ey
            exact .inl ⟨io.stop i w2 H2 η' ex hr2 eo, fin hr1 hn ex hb hr2 hD ra p1⟩
          | some x =>
              obtain ⟨g, y⟩ := io.go i w2 H2 η2 x ex hr2 (by dsimp only [Src.at]; rw [eo])
              refine .inr ⟨g, Mk K w1 H1 (wipeD ρ vs) Dd η' ys (cmpO b s te (wipeD ρ vs) f m (i + 1)), fun H' q => ⟨m, by omega, q⟩, fun v H3 hy => ?_⟩
              obtain ⟨e3, hr3, rv⟩ := y v H3 hy
              dsimp only at er
              cases eb : b x (wipeD ρ vs) with
              | none => rw [eb] at er; cases er
              | some ρ3 =>
                rw [eb] at er
                exact mk_turn hn hb1 hsub (env0 _ _ (ex.trans e3)) (ex.trans e3) (e3.bz _ hb).1 hr3 ((e3.bz _ hb).2.trans hD) (ra.ext e3) rv eb hz er ey
theorem lcV_reads {N : Nat} {fi : FI} {Q : VK} (hsub : ∀ j ∈ sl, j ∈ vs) (h : rdE K W (lc N vs fi b s te) σ H Q) : tLc (rdI K W fi) (rdG K sl b) (rdT K WF s) (rdE K WF te) vs σ H Q :=
  lc_reads hsub h fun hr1 hn ex hb hr hD ra p => mk_done (ρ0 := []) hr1 hn ex hb hr hD ra p
theorem lcO_reads {N : Nat} {fi : FI} {Q : VK} (hsub : ∀ j ∈ sl, j ∈ vs) (h : rdE K W (lcO N vs fi b s te) σ H Q) : tLc (rdI K W fi) (rdG K sl b) (rdT K WF s) (rdE K WF te) vs σ H Q :=
  lc_reads hsub h fun hr1 hn ex hb hr hD ra p => mk_doneO (ρ0 := []) hr1 hn ex hb hr hD ra p
section
variable {N : Nat} {elt tg iter : Expr} {ifs : List Expr} {scope : Scope} {own : List (Str × Nat)} {pos spos : Pos} {fi : FI}
/-- [elt for tg in iter if ..], a value -/
theorem de_lc (hc : X.calm = true) (hN : X.N.Nodup) (hi : DI X W tg iter fi) (ok : BlkOk X.N X.env.scope scope own)
    (hg : ∀ (s : Shared) (H : Hp) (C : Addr) (cl : List (Str × Addr)) (fp : List Addr), DG (X.blk s H scope (compEnvC scope cl C X.env) fp) sl tg b) (ht : ∀ (s' : Shared) (H : Hp) (C : Addr) (cl : List (Str × Addr)) (fp : List Addr), PTs (X.blk s' H scope (compEnvC scope cl C X.env) fp) ifs (rdT X.K WF s))
    (he : ∀ (s : Shared) (H : Hp) (C : Addr) (cl : List (Str × Addr)) (fp : List Addr), DE (X.blk s H scope (compEnvC scope cl C X.env) fp) WF elt te) (hsub : ∀ j ∈ sl, j ∈ own.map (·.2) := by decide) (hs : ∀ x, foldedSetIterable iter X.env x = pure x := by intro _; rfl) :
    DE X W (.ListComp elt [⟨tg, iter, ifs, 0⟩] scope pos) (lc N (own.map (·.2)) fi b s te) := PE.imp (pe_lc hc hN hi ok hg ht he hs) fun _ _ _ => lcV_reads hsub
theorem de_lcO (hc : X.calm = true) (hN : X.N.Nodup) (hi : DI X W tg iter fi) (ok : BlkOk X.N X.env.scope scope own)
    (hg : ∀ (s : Shared) (H : Hp) (C : Addr) (cl : List (Str × Addr)) (fp : List Addr), DG (X.blk s H scope (compEnvC scope cl C X.env) fp) sl tg b) (ht : ∀ (s' : Shared) (H : Hp) (C : Addr) (cl : List (Str × Addr)) (fp : List Addr), PTs (X.blk s' H scope (compEnvC scope cl C X.env) fp) ifs (rdT X.K WF s))
    (he : ∀ (s : Shared) (H : Hp) (C : Addr) (cl : List (Str × Addr)) (fp : List Addr), DE (X.blk s H scope (compEnvC scope cl C X.env) fp) WF elt te) (hsub : ∀ j ∈ sl, j ∈ own.map (·.2) := by decide) (hs : ∀ x, foldedSetIterable iter X.env x = pure x := by intro _; rfl) :
    DE X W (.ListComp elt [⟨tg, iter, ifs, 0⟩] scope pos) (lcO N (own.map (·.2)) fi b s te) := PE.imp (pe_lc hc hN hi ok hg ht he hs) fun _ _ _ => lcO_reads hsub
/-- name = [..] -/
theorem ds_setLc (i : Nat) {y : Str} {py : Pos} (hc : X.calm = true) (hN : X.N.Nodup) (hsw : swapsWith (.ListComp elt [⟨tg, iter, ifs, 0⟩] scope pos) (some (.Name y py)) spos.line X.env = pure true) (hi : DI X W tg iter fi) (ok : BlkOk X.N X.env.scope scope own)
    (hg : ∀ (s : Shared) (H : Hp) (C : Addr) (cl : List (Str × Addr)) (fp : List Addr), DG (X.blk s H scope (compEnvC scope cl C X.env) fp) sl tg b) (ht : ∀ (s' : Shared) (H : Hp) (C : Addr) (cl : List (Str × Addr)) (fp : List Addr), PTs (X.blk s' H scope (compEnvC scope cl C X.env) fp) ifs (rdT X.K WF s))
    (he : ∀ (s : Shared) (H : Hp) (C : Addr) (cl : List (Str × Addr)) (fp : List Addr), DE (X.blk s H scope (compEnvC scope cl C X.env) fp) WF elt te) (hsub : ∀ j ∈ sl, j ∈ own.map (·.2) := by decide) (hy : X.N[i]? = some y := by rfl) (hyl : X.env.scope.names.lookup y = some .local := by rfl) (hs : ∀ x, foldedSetIterable iter X.env x = pure x := by intro _; rfl) :
    DS X W (.Assign [.Name y py] (.ListComp elt [⟨tg, iter, ifs, 0⟩] scope pos) spos) (sAsg (lc N (own.map (·.2)) fi b s te) (bN i)) :=
  PS.imp (ps_setLc hc hN hy hyl hsw hi ok hg ht he hs) fun E σ H ⟨w, ρ, η, rel, p⟩ => lcV_reads hsub ((rdE_thenS rel p).imp fun v H1 ⟨w1, d, η1, e, rel1, rv, p1⟩ => p1 _ w1 H1 .refl ⟨rel1.env.set rv, rel1.heap⟩)
theorem ds_setLcO (i : Nat) {y : Str} {py : Pos} (hc : X.calm = true) (hN : X.N.Nodup) (hsw : swapsWith (.ListComp elt [⟨tg, iter, ifs, 0⟩] scope pos) (some (.Name y py)) spos.line X.env = pure true) (hi : DI X W tg iter fi) (ok : BlkOk X.N X.env.scope scope own)
    (hg : ∀ (s : Shared) (H : Hp) (C : Addr) (cl : List (Str × Addr)) (fp : List Addr), DG (X.blk s H scope (compEnvC scope cl C X.env) fp) sl tg b) (ht : ∀ (s' : Shared) (H : Hp) (C : Addr) (cl : List (Str × Addr)) (fp : List Addr), PTs (X.blk s' H scope (compEnvC scope cl C X.env) fp) ifs (rdT X.K WF s))
    (he : ∀ (s : Shared) (H : Hp) (C : Addr) (cl : List (Str × Addr)) (fp : List Addr), DE (X.blk s H scope (compEnvC scope cl C X.env) fp) WF elt te) (hsub : ∀ j ∈ sl, j ∈ own.map (·.2) := by decide) (hy : X.N[i]? = some y := by rfl) (hyl : X.env.scope.names.lookup y = some .local := by rfl) (hs : ∀ x, foldedSetIterable iter X.env x = pure x := by intro _; rfl) :
    DS X W (.Assign [.Name y py] (.ListComp elt [⟨tg, iter, ifs, 0⟩] scope pos) spos) (sAsg (lcO N (own.map (·.2)) fi b s te) (bN i)) :=
  PS.imp (ps_setLc hc hN hy hyl hsw hi ok hg ht he hs) fun E σ H ⟨w, ρ, η, rel, p⟩ => lcO_reads hsub ((rdE_thenS rel p).imp fun v H1 ⟨w1, d, η1, e, rel1, rv, p1⟩ => p1 _ w1 H1 .refl ⟨rel1.env.set rv, rel1.heap⟩)
theorem dts_nil : PTs X [] (rdT X.K W yes) := ⟨fun pins s σ H Q I ⟨w, ρ, η, rel, p⟩ => (pts_nil).run pins s σ H Q I (p true w H .refl rel.heap rfl)⟩
theorem dts_one {c : Expr} (h : DT X W c s) : PTs X [c] (rdT X.K W s) := pts_one h
end
end
end Dn
/-! Dn part 5: defs; what a call leaves is forgotten. -/
namespace Dn
open PySem PySem.Spec PyProof.Rows L2
/-- a def's body as a function -/
def runF (n : Nat) (b : FS) : FF := fun ds η => match b (ds.map some ++ List.replicate (n - ds.length) none) η with
  | .nx _ η => .ok .non η
  | .ret d η => .ok d η
  | .exc x _ η => .exc x η
  | _ => .no
section
variable {P : Program} {w : World} {K : PySem.W.Frag} {mg : Str → Option Value} {base : Heap} {x qual : Str} {params : Arguments} {body : List Stmt} {scope : Scope} {f : Addr} {fd : FuncData}
theorem envRel_start {wd : Wd} {H : Hp} {N : List Str} {vs : List V} {ds : List D} (r : RepVs K wd H vs ds) : EnvRel K wd (L2.start N vs) H (ds.map some ++ List.replicate (N.length - ds.length) none) := by
  refine ⟨by simp [L2.start, r.length], fun i d e => ?_⟩
  unfold L2.start
  by_cases hi : i < ds.length
  · rw [List.getElem?_append_left (by simpa using hi), List.getElem?_map] at e
    cases ed : ds[i]? with
    | none => rw [ed] at e; cases e
    | some d' =>
      rw [ed] at e
      cases e
      obtain ⟨v, ev, rv⟩ := r.get ed
      refine ⟨v, ?_, rv⟩
      rw [List.getElem?_append_left (by simpa [r.length] using hi), List.getElem?_map, ev]
      rfl
  · rw [List.getElem?_append_right (by simpa using hi), List.getElem?_replicate] at e
    split at e <;> cases e
theorem fn_ok {N ps : List Str} {k n : Nat} {b : FS} (F : FunD K x qual params body scope [] [] f fd) (S : FnScope N ps scope) (hn : ps.length = n)
    (hb : ∀ (cdv : Value) (A : Around) (outer : List PySem.Env) (s : Shared) (H : Hp) (E : XK), Room k (A.deeper (envOfC qual scope s.heap.objs.size f cdv)) →
      DSs (cxOf (L2.CX P w) P w K mg base N qual scope f cdv A outer s H E) (fun c d _ H => E c d H) body b) :
    FnOk P w K mg base (L2.CX P w) (k + 1) f fd ps (spD K n (runF N.length b)) := by
  refine F.ok S (spD.len hn) fun cdv A outer s H vs Q E hr ⟨wd, η, ds, hh, rv, hl, p⟩ => ⟨_, hb cdv A outer s H E hr, ?_⟩
  refine ⟨wd, _, η, ⟨envRel_start rv, hh⟩, ?_⟩
  unfold runF at p
  cases e : b (ds.map some ++ List.replicate (N.length - ds.length) none) η with
  | nx ρ η' => rw [e] at p; exact fun σ' w' H' e' r => p .non w' H' e' r.heap .non
  | ret d η' => rw [e] at p; exact p
  | exc x ρ η' => rw [e] at p; exact fun c d σ' w' H' e' r rx => p c d w' H' e' r.heap rx
  | brk ρ η' => rw [e] at p; exact p.elim
  | cnt ρ η' => rw [e] at p; exact p.elim
  | no => rw [e] at p; exact p.elim
end

/-! ### trimming -/
mutual
/-- no thing of the store from n on is named -/
def D.low (n : Nat) : D → Bool
  | .obj i => decide (i < n)
  | .tup xs => D.lows n xs
  | .lst xs => D.lows n xs
  | .scr xs => D.lows n xs
  | _ => true
def D.lows (n : Nat) : List D → Bool
  | [] => true
  | x :: xs => D.low n x && D.lows n xs
end
def O.low (n : Nat) : O → Bool
  | .lst xs => D.lows n xs
  | .dK kvs => D.lows n (kvs.map (·.2))
  | .dT kvs => D.lows n (kvs.map (·.2))
  | .ins _ fs => D.lows n (fs.map (·.2))
abbrev Wd.cut (w : Wd) (n : Nat) : Wd := ⟨w.io.take n, w.bz⟩
section
variable {K : PySem.W.Frag} {w w1 w2 w' : Wd} {H H1 H2 H' : Hp} {η η' : Store} {n : Nat} {a : Addr}
theorem not_take {n : Nat} (h : a ∉ w.io) : a ∉ (w.cut n).io := fun z => h (List.mem_of_mem_take z)
mutual
theorem RepV.cut (n : Nat) : ∀ {v : V} {d : D}, RepV K w H v d → D.low n d = true → RepV K (w.cut n) H v d
  | _, _, .non, _ => .non
  | _, _, .bl b, _ => .bl b
  | _, _, .int i, _ => .int i
  | _, _, .str x, _ => .str x
  | _, _, .tup h hs, l => .tup (by
      rcases h with ⟨h, m, b⟩ | h
      · exact .inl ⟨h, not_take m, b⟩
      · exact .inr h) (RepVs.cut n hs (by simpa [D.low] using l))
  | _, _, .lst h hs, l => .lst ⟨h.1, not_take h.2.1, h.2.2⟩ (RepVs.cut n hs (by simpa [D.low] using l))
  | _, _, .scr h hs, l => .scr (by
      rcases h with ⟨h, m, b⟩ | h
      · exact .inl ⟨h, not_take m, b⟩
      · exact .inr h) (RepVs.cut n hs (by simpa [D.low] using l))
  | _, _, .obj (i := i) h, l => .obj (by
      have hi : i < n := by simpa [D.low] using l
      show (w.io.take n)[i]? = _
      rw [List.getElem?_take_of_lt hi]; exact h)
  | _, _, .gl x, _ => .gl x
  | _, _, .ty m, _ => .ty m
theorem RepVs.cut (n : Nat) : ∀ {vs : List V} {ds : List D}, RepVs K w H vs ds → D.lows n ds = true → RepVs K (w.cut n) H vs ds
  | _, _, .nil, _ => .nil
  | _, _, .cons h hs, l => by
    have l' := Bool.and_eq_true_iff.mp (show (D.low n _ && D.lows n _) = true from l)
    exact .cons (RepV.cut n h l'.1) (RepVs.cut n hs l'.2)
end
theorem RepO.cut {o : O} (n : Nat) (h : RepO K w H a o) (l : o.low n = true) : RepO K (w.cut n) H a o := by
  cases o with
  | lst ds => obtain ⟨xs, f, r⟩ := h; exact ⟨xs, f, r.cut n l⟩
  | dK ds => obtain ⟨xs, f, r⟩ := h; exact ⟨xs, f, r.1, r.2.cut n l⟩
  | dT ds => obtain ⟨xs, f, r⟩ := h; exact ⟨xs, f, r.1, r.2.cut n l⟩
  | ins c ds => obtain ⟨dx, xs, f, r⟩ := h; exact ⟨dx, xs, f, r.1, r.2.cut n l⟩
/-- what is told of things of the world ahead stays so in the cut world -/
theorem cut_pre (e : Ext w H w' H') (hn : n = w.io.length) : (w'.cut n).io = w.io := by
  obtain ⟨t, f⟩ := e.pre
  show w'.io.take n = w.io
  rw [f, hn, List.take_left']
  rfl
/-- a store behind a call: each old thing is as it was, or names old things alone -/
def keepS (η η' : Store) : Prop := ∀ i o, i < η.length → η'[i]? = some o → η[i]? = some o ∨ o.low η.length = true
mutual
theorem RepV.isLow : ∀ {v : V} {d : D}, RepV K w H v d → D.low w.io.length d = true
  | _, _, .non => rfl
  | _, _, .bl b => rfl
  | _, _, .int i => rfl
  | _, _, .str x => rfl
  | _, _, .tup h hs => RepVs.isLow hs
  | _, _, .lst h hs => RepVs.isLow hs
  | _, _, .scr h hs => RepVs.isLow hs
  | _, _, .obj h => decide_eq_true (List.getElem?_eq_some_iff.mp h).1
  | _, _, .gl x => rfl
  | _, _, .ty m => rfl
theorem RepVs.isLow : ∀ {vs : List V} {ds : List D}, RepVs K w H vs ds → D.lows w.io.length ds = true
  | _, _, .nil => rfl
  | _, _, .cons h hs => Bool.and_eq_true_iff.mpr ⟨RepV.isLow h, RepVs.isLow hs⟩
end
theorem RepO.isLow {o : O} (h : RepO K w H a o) : o.low w.io.length = true := by
  cases o with
  | lst ds => obtain ⟨xs, f, r⟩ := h; exact r.isLow
  | dK ds => obtain ⟨xs, f, r⟩ := h; exact r.2.isLow
  | dT ds => obtain ⟨xs, f, r⟩ := h; exact r.2.isLow
  | ins c ds => obtain ⟨dx, xs, f, r⟩ := h; exact r.2.isLow
/-- the world behind a call, cut to the things that stood ahead -/
theorem HeapRel.cut (hr : HeapRel K w H η) (e : Ext w H w' H') (hr' : HeapRel K w' H' η') (k : keepS η η') : HeapRel K (w'.cut η.length) H' (η'.take η.length) := by
  obtain ⟨t, f⟩ := e.pre
  have hl : η.length ≤ w'.io.length := by rw [f, List.length_append, hr.len]; omega
  have hl' : η.length ≤ η'.length := by rw [← hr'.len]; exact hl
  refine ⟨by simp [hr'.len], (List.take_sublist _ _).nodup hr'.nd, fun i b o hb ho => ?_, fun b hb => ⟨not_take (hr'.bz b hb).1, (hr'.bz b hb).2⟩⟩
  by_cases hi : i < η.length
  · rw [List.getElem?_take_of_lt hi] at ho
    have hb' : w'.io[i]? = some b := by
      have : (w'.io.take η.length)[i]? = some b := hb
      rw [List.getElem?_take_of_lt hi] at this; exact this
    have r := hr'.at_ i b o hb' ho
    refine r.cut _ ?_
    rcases k i o hi ho with h | h
    · have hw : w.io[i]? = some b := by
        rw [f, List.getElem?_append_left (by rw [hr.len]; exact hi)] at hb'; exact hb'
      have := (hr.at_ i b o hw h).isLow
      rw [hr.len] at this; exact this
    · exact h
  · rw [List.getElem?_eq_none (by simp; omega)] at ho; cases ho
theorem Ext.cut (hr : HeapRel K w H η) (e : Ext w H w' H') : Ext w H (w'.cut η.length) H' :=
  ⟨⟨⟨[], by rw [cut_pre e hr.len.symm]; simp⟩, fun c o h m n => let ⟨a1, a2, a3⟩ := e.keep c o h m n; ⟨a1, not_take a2, a3⟩⟩, e.bz⟩
/-- an answer in the cut world: a new list is told by value from now on -/
def cutD (n : Nat) (η' : Store) : D → Option D
  | .obj i => if i < n then some (.obj i) else match η'[i]? with
    | some (.lst xs) => if D.lows n xs = true then some (.lst xs) else none
    | _ => none
  | d => if D.low n d = true then some d else none
theorem cutD_ok {v : V} {d d' : D} (hr' : HeapRel K w' H' η') (rv : RepV K w' H' v d) (h : cutD n η' d = some d') : RepV K (w'.cut n) H' v d' := by
  cases d with
  | obj i =>
    cases rv with | obj hb => ?_
    rename_i b
    dsimp only [cutD] at h
    split at h
    · rename_i hi
      cases h
      exact (RepV.obj hb).cut n (decide_eq_true hi)
    · rename_i hi
      split at h
      · rename_i xs eo
        split at h
        · rename_i hl
          cases h
          obtain ⟨ys, eH, r⟩ := hr'.at_ _ _ _ hb eo
          refine .lst ⟨eH, fun z => ?_, fun z => (hr'.bz b z).1 (List.mem_of_getElem? hb)⟩ (r.cut n hl)
          obtain ⟨j, hj, ej⟩ := List.getElem_of_mem z
          have hj' : j < n := by
            have : j < (w'.io.take n).length := hj
            simp at this; omega
          have e1 : w'.io[j]? = some b := by
            have : (w'.io.take n)[j]? = some b := by rw [List.getElem?_eq_getElem hj, ej]
            rw [List.getElem?_take_of_lt hj'] at this; exact this
          have := ix_nd hr'.nd e1 hb
          omega
        · cases h
      · cases h
  | _ =>
    dsimp only [cutD] at h
    split at h
    · rename_i hl
      cases h
      exact rv.cut n hl
    · cases h
open Classical in
/-- what a call made is forgotten -/
noncomputable def trimR (η : Store) : R D → R D
  | .ok d η' => if keepS η η' then (match cutD η.length η' d with
    | some d' => .ok d' (η'.take η.length)
    | none => .ok d η') else .ok d η'
  | .exc ⟨c, none⟩ η' => if keepS η η' then .exc ⟨c, none⟩ (η'.take η.length) else .exc ⟨c, none⟩ η'
  | r => r
noncomputable def trimF (F : FF) : FF := fun ds η => trimR η (F ds η)
theorem trim_post {Q : VK} {E : XK} {r : R D} (hr : HeapRel K w H η) (p : Post K (RepV K) w H Q E (trimR η r)) : Post K (RepV K) w H Q E r := by
  cases r with
  | ok d η' =>
    dsimp only [trimR] at p
    split at p
    · rename_i k
      split at p
      · rename_i d' ed
        exact fun v w' H' e hr' rv => p v _ H' (e.cut hr) (hr.cut e hr' k) (cutD_ok hr' rv ed)
      · exact p
    · exact p
  | exc x η' =>
    obtain ⟨c, fs⟩ := x
    cases fs with
    | none =>
      dsimp only [trimR] at p
      split at p
      · rename_i k
        exact fun cl d w' H' e hr' rx => p cl d _ H' (e.cut hr) (hr.cut e hr' k) rx
      · exact p
    | some fs => exact p
  | no => exact p
theorem fn_trim {P : Program} {wl : World} {K : PySem.W.Frag} {mg : Str → Option Value} {base : Heap} {CX : CXT} {k n : Nat} {f : Addr} {fd : FuncData} {ps : List Str} {F : FF} (h : FnOk P wl K mg base CX k f fd ps (spD K n F)) :
    FnOk P wl K mg base CX k f fd ps (spD K n (trimF F)) :=
  h.imp fun vs H Q E ⟨w, η, ds, hr, rv, hl, p⟩ => ⟨w, η, ds, hr, rv, hl, trim_post hr p⟩
end
/-- for reckoning -/
theorem keepS_refl (η : Store) : keepS η η := fun i o _ h => .inl h
theorem keepS_app (η g : Store) : keepS η (η ++ g) := fun i o hi h => .inl (by rwa [List.getElem?_append_left hi] at h)
theorem keepS_set (η g : Store) (i : Nat) (o : O) (h : o.low η.length = true) : keepS η (η.set i o ++ g) := fun j u hj e => by
  rw [List.getElem?_append_left (by simpa using hj), List.getElem?_set] at e
  split at e
  · split at e
    · cases e; exact .inr h
    · cases e
  · exact .inl e
theorem keepS_set' (η : Store) (i : Nat) (o : O) (h : o.low η.length = true) : keepS η (η.set i o) := by simpa using keepS_set η [] i o h
end Dn
/-! Dn part 6: operations on data. -/
namespace Dn
open PySem PySem.Spec PyProof.Rows L2
section
variable {X : Cx} {W : WX} {K : PySem.W.Frag} {w w' : Wd} {H H' : Hp} {η η' : Store}
theorem op_of {f : Value → Value → Sem Value} {r : R2} {g : G2} (ho : OpR X f r)
    (m : ∀ {x y H} {Q : VK} {w η d1 d2 z η'}, HeapRel X.K w H η → RepV X.K w H x d1 → RepV X.K w H y d2 → g d1 d2 η = some (z, η') → (∀ v w' H', Ext w H w' H' → HeapRel X.K w' H' η' → RepV X.K w' H' v z → Q v H') → r x y H Q) : OpR X f (rd2 X.K g) := by
  intro pins s σ H x y v u Q I rx ry ⟨w, η, d1, d2, hr, r1, r2, p⟩
  cases e : g d1 d2 η with
  | none => rw [e] at p; exact p.elim
  | some q =>
    obtain ⟨z, η'⟩ := q
    rw [e] at p
    exact ho pins s σ H x y v u Q I rx ry (m hr r1 r2 e p)
theorem un_of {f : Value → Sem Value} {r : V → Hp → VK → Prop} {g : G1} (ho : UnR X f r)
    (m : ∀ {x H} {Q : VK} {w η d z η'}, HeapRel X.K w H η → RepV X.K w H x d → g d η = some (z, η') → (∀ v w' H', Ext w H w' H' → HeapRel X.K w' H' η' → RepV X.K w' H' v z → Q v H') → r x H Q) : UnR X f (rd1 X.K g) := by
  intro pins s σ H x v Q I rx ⟨w, η, d, hr, r1, p⟩
  cases e : g d η with
  | none => rw [e] at p; exact p.elim
  | some q =>
    obtain ⟨z, η'⟩ := q
    rw [e] at p
    exact ho pins s σ H x v Q I rx (m hr r1 e p)
theorem call_of {f : Value} {r : List V → Hp → VK → Prop} {g : GL} (ho : CallR X f r)
    (m : ∀ {xs H} {Q : VK} {w η ds z η'}, HeapRel X.K w H η → RepVs X.K w H xs ds → g ds η = some (z, η') → (∀ v w' H', Ext w H w' H' → HeapRel X.K w' H' η' → RepV X.K w' H' v z → Q v H') → r xs H Q) : CallR X f (rdL X.K g) := by
  intro pins s σ H xs us Q I rx ⟨w, η, ds, hr, r1, p⟩
  cases e : g ds η with
  | none => rw [e] at p; exact p.elim
  | some q =>
    obtain ⟨z, η'⟩ := q
    rw [e] at p
    exact ho pins s σ H xs us Q I rx (m hr r1 e p)
theorem ix_of {r : R2} {g : G2} (ho : IxR X r)
    (m : ∀ {x y H} {Q : VK} {w η d1 d2 z η'}, HeapRel X.K w H η → RepV X.K w H x d1 → RepV X.K w H y d2 → g d1 d2 η = some (z, η') → (∀ v w' H', Ext w H w' H' → HeapRel X.K w' H' η' → RepV X.K w' H' v z → Q v H') → r x y H Q) : IxR X (rd2 X.K g) := by
  intro value slice pins s σ H x y v u Q I rx ry ⟨w, η, d1, d2, hr, r1, r2, p⟩ hs
  cases e : g d1 d2 η with
  | none => rw [e] at p; exact p.elim
  | some q =>
    obtain ⟨z, η'⟩ := q
    rw [e] at p
    exact ho value slice pins s σ H x y v u Q I rx ry (m hr r1 r2 e p) hs
theorem sl_of {r : V → Option Int → Option Int → Hp → VK → Prop} {g : GS} (ho : SlR X r)
    (m : ∀ {x lo hi H} {Q : VK} {w η d z η'}, HeapRel X.K w H η → RepV X.K w H x d → g d lo hi η = some (z, η') → (∀ v w' H', Ext w H w' H' → HeapRel X.K w' H' η' → RepV X.K w' H' v z → Q v H') → r x lo hi H Q) : SlR X (rdSl X.K g) := by
  intro pins s σ H x v vl vu lo hi sl Q I rx hs p1 p2 ⟨w, η, d, hr, r1, p⟩
  cases e : g d lo hi η with
  | none => rw [e] at p; exact p.elim
  | some q =>
    obtain ⟨z, η'⟩ := q
    rw [e] at p
    exact ho pins s σ H x v vl vu lo hi sl Q I rx hs p1 p2 (m hr r1 e p)
/-- the items of a list (by value, or a thing), a tuple -/
def lstOf : D → Store → Option (List D)
  | .lst xs, _ => some xs
  | .obj i, η => match η[i]? with
    | some (.lst xs) => some xs
    | _ => none
  | _, _ => none
theorem lstOf_ok {v : V} {d : D} {ds : List D} (hr : HeapRel K w H η) (rv : RepV K w H v d) (h : lstOf d η = some ds) : ∃ a xs, v = .ref a ∧ H a = some (.lst xs) ∧ RepVs K w H xs ds := by
  cases d with
  | lst xs => cases rv with | lst s r => cases h; exact ⟨_, _, rfl, s.1, r⟩
  | obj i =>
    cases rv with | obj ha => ?_
    dsimp only [lstOf] at h
    split at h
    · rename_i xs eo
      cases h
      obtain ⟨ys, e, r⟩ := hr.at_ _ _ _ ha eo
      exact ⟨_, _, rfl, e, r⟩
    · cases h
  | _ => cases h
/-- .. or the script -/
def seqL : D → Store → Option (List D)
  | .lst xs, _ => some xs
  | .scr xs, _ => some xs
  | .obj i, η => match η[i]? with
    | some (.lst xs) => some xs
    | _ => none
  | _, _ => none
theorem seqL_ok {v : V} {d : D} {ds : List D} (hr : HeapRel K w H η) (rv : RepV K w H v d) (h : seqL d η = some ds) : ∃ a xs, v = .ref a ∧ SqL K H a xs ∧ RepVs K w H xs ds := by
  cases d with
  | lst xs => cases rv with | lst s r => cases h; exact ⟨_, _, rfl, s.sq, r⟩
  | scr xs => cases rv with | scr s r => cases h; exact ⟨_, _, rfl, s.sq, r⟩
  | obj i =>
    cases rv with | obj ha => ?_
    dsimp only [seqL] at h
    split at h
    · rename_i xs eo
      cases h
      obtain ⟨ys, e, r⟩ := hr.at_ _ _ _ ha eo
      exact ⟨_, _, rfl, SqL.of e, r⟩
    · cases h
  | _ => cases h
theorem val_of {Q : VK} {z : D} {v : V} (p : ∀ v w' H', Ext w H w' H' → HeapRel K w' H' η → RepV K w' H' v z → Q v H') (hr : HeapRel K w H η) (rv : RepV K w H v z) : Q v H := p v w H .refl hr rv
theorem tup_of {Q : VK} {xs : List V} {ds : List D} (p : ∀ v w' H', Ext w H w' H' → HeapRel K w' H' η → RepV K w' H' v (.tup ds) → Q v H') (hr : HeapRel K w H η) (r : RepVs K w H xs ds) {q : Addr} (hq : H q = none) : Q (.ref q) (upd H q (.tup xs)) :=
  p _ w _ (Ext.laid hq hr) (hr.laid hq) (.newT hr r hq)
theorem lst_of {Q : VK} {xs : List V} {ds : List D} (p : ∀ v w' H', Ext w H w' H' → HeapRel K w' H' η → RepV K w' H' v (.lst ds) → Q v H') (hr : HeapRel K w H η) (r : RepVs K w H xs ds) {q : Addr} (hq : H q = none) : Q (.ref q) (upd H q (.lst xs)) :=
  p _ w _ (Ext.laid hq hr) (hr.laid hq) (.newL hr r hq)
theorem obj_of {Q : VK} {xs : List V} {ds : List D} (p : ∀ v w' H', Ext w H w' H' → HeapRel K w' H' (η ++ [.lst ds]) → RepV K w' H' v (.obj η.length) → Q v H') (hr : HeapRel K w H η) (r : RepVs K w H xs ds) {q : Addr} (hq : H q = none) : Q (.ref q) (upd H q (.lst xs)) :=
  p _ _ _ (Ext.more hq hr) (hr.newO r hq) (.obj (hr.ixO q))

/-! ### + -/
def addD : G2 := fun x y η => match x, y with
  | .int i, .int j => some (.int (i + j), η)
  | .str a, .str b => if a.length + b.length ≤ sizeLine then some (.str (a ++ b), η) else none
  | .tup a, .tup b => if a.length + b.length ≤ sizeLine then some (.tup (a ++ b), η) else none
  | x, y => match lstOf x η, lstOf y η with
    | some a, some b => if a.length + b.length ≤ sizeLine then some (.lst (a ++ b), η) else none
    | _, _ => none
theorem addD_lst {x y : D} {z : D} {η η' : Store} (h : addD x y η = some (z, η')) :
    (∃ i j, x = .int i ∧ y = .int j ∧ z = .int (i + j) ∧ η' = η) ∨ (∃ a b, x = .str a ∧ y = .str b ∧ a.length + b.length ≤ sizeLine ∧ z = .str (a ++ b) ∧ η' = η) ∨
    (∃ a b, x = .tup a ∧ y = .tup b ∧ a.length + b.length ≤ sizeLine ∧ z = .tup (a ++ b) ∧ η' = η) ∨ (∃ a b, lstOf x η = some a ∧ lstOf y η = some b ∧ a.length + b.length ≤ sizeLine ∧ z = .lst (a ++ b) ∧ η' = η) := by
  unfold addD at h
  split at h
  · cases h; exact .inl ⟨_, _, rfl, rfl, rfl, rfl⟩
  · split at h
    · rename_i hl; cases h; exact .inr (.inl ⟨_, _, rfl, rfl, hl, rfl, rfl⟩)
    · cases h
  · split at h
    · rename_i hl; cases h; exact .inr (.inr (.inl ⟨_, _, rfl, rfl, hl, rfl, rfl⟩))
    · cases h
  · split at h
    · rename_i e1 e2
      split at h
      · rename_i hl; cases h; exact .inr (.inr (.inr ⟨_, _, e1, e2, hl, rfl, rfl⟩))
      · cases h
    · cases h
theorem opD_add : OpR X (binaryOp .Add) (rd2 X.K addD) :=
  op_of (OpR.or op_add (OpR.or op_add_str (OpR.or op_catA op_cat))) fun hr r1 r2 h p => by
    rcases addD_lst h with ⟨i, j, rfl, rfl, rfl, rfl⟩ | ⟨a, b, rfl, rfl, hl, rfl, rfl⟩ | ⟨a, b, rfl, rfl, hl, rfl, rfl⟩ | ⟨a, b, e1, e2, hl, rfl, rfl⟩
    · cases r1; cases r2
      exact .inl ⟨_, _, rfl, rfl, val_of p hr (.int _)⟩
    · cases r1; cases r2
      exact .inr (.inl ⟨_, _, rfl, rfl, hl, val_of p hr (.str _)⟩)
    · cases r1 with | tup s1 q1 => ?_
      cases r2 with | tup s2 q2 => ?_
      refine .inr (.inr (.inl ⟨_, _, _, _, rfl, rfl, s1.sq, s2.sq, by rw [q1.length, q2.length]; exact hl, fun e => ?_, fun _ e => ?_, fun _ _ q hq => tup_of p hr (q1.append q2) hq⟩))
      · subst e; cases q1; exact val_of p hr (.tup s2 q2)
      · subst e; cases q2; exact val_of p hr (.tup s1 (by rw [List.append_nil]; exact q1))
    · obtain ⟨a1, xs, rfl, h1, q1⟩ := lstOf_ok hr r1 e1
      obtain ⟨a2, ys, rfl, h2, q2⟩ := lstOf_ok hr r2 e2
      exact .inr (.inr (.inr ⟨_, _, _, _, rfl, rfl, h1, h2, by rw [q1.length, q2.length]; exact hl, fun q hq => lst_of p hr (q1.append q2) hq⟩))
/-! ### intsOf -/
def subD : G2 := fun x y η => match x, y with
  | .int i, .int j => some (.int (i - j), η)
  | _, _ => none
theorem opD_sub : OpR X (binaryOp .Sub) (rd2 X.K subD) := op_of op_sub fun hr r1 r2 h p => by
  unfold subD at h
  split at h
  · cases h; cases r1; cases r2; exact ⟨_, _, rfl, rfl, val_of p hr (.int _)⟩
  · cases h
def mulOk (i j : Int) : Prop := CMul i j ∨ CMulW i j
open Classical in
noncomputable def mulD : G2 := fun x y η => match x, y with
  | .int i, .int j => if mulOk i j then some (.int (i * j), η) else none
  | _, _ => none
theorem opD_mul : OpR X (binaryOp .Mult) (rd2 X.K mulD) := op_of (OpR.or op_mul op_mulW) fun hr r1 r2 h p => by
  unfold mulD at h
  split at h
  · split at h
    · rename_i hm
      cases h; cases r1; cases r2
      rcases hm with hm | hm
      · exact .inl ⟨_, _, rfl, rfl, hm, val_of p hr (.int _)⟩
      · exact .inr ⟨_, _, rfl, rfl, hm, val_of p hr (.int _)⟩
    · cases h
  · cases h
def divOk (j : Int) : Prop := 0 < j ∧ (j < 1073741824 ∨ j.natAbs.log2 < 9000)
open Classical in
noncomputable def fdivD : G2 := fun x y η => match x, y with
  | .int i, .int j => if divOk j then some (.int (i / j), η) else none
  | _, _ => none
theorem opD_fdiv : OpR X (binaryOp .FloorDiv) (rd2 X.K fdivD) := op_of (OpR.or op_fdiv op_fdivW) fun hr r1 r2 h p => by
  unfold fdivD at h
  split at h
  · split at h
    · rename_i hm
      cases h; cases r1; cases r2
      obtain ⟨h0, hm⟩ := hm
      rcases hm with hm | hm
      · exact .inl ⟨_, _, rfl, rfl, ⟨h0, hm⟩, val_of p hr (.int _)⟩
      · exact .inr ⟨_, _, rfl, rfl, ⟨h0, hm⟩, val_of p hr (.int _)⟩
    · cases h
  · cases h
def modD : G2 := fun x y η => match x, y with
  | .int i, .int j => if 0 < j then some (.int (i % j), η) else none
  | _, _ => none
theorem opD_mod : OpR X (binaryOp .Mod) (rd2 X.K modD) := op_of op_mod fun hr r1 r2 h p => by
  unfold modD at h
  split at h
  · split at h
    · rename_i hm
      cases h; cases r1; cases r2
      exact ⟨_, _, rfl, rfl, hm, val_of p hr (.int _)⟩
    · cases h
  · cases h
def powD : G2 := fun x y η => match x, y with
  | .int i, .int j => if 0 ≤ j ∧ j ≤ 1000000 ∧ i.natAbs < 2 ^ 64 then some (.int (i ^ j.toNat), η) else none
  | _, _ => none
theorem opD_pow : OpR X (binaryOp .Pow) (rd2 X.K powD) := op_of op_pow fun hr r1 r2 h p => by
  unfold powD at h
  split at h
  · split at h
    · rename_i hm
      cases h; cases r1; cases r2
      exact ⟨_, _, rfl, rfl, hm, val_of p hr (.int _)⟩
    · cases h
  · cases h
def negD : G1 := fun x η => match x with
  | .int i => some (.int (-i), η)
  | _ => none
theorem unD_neg : UnR X (unaryOp .USub) (rd1 X.K negD) := un_of un_neg fun hr r1 h p => by
  unfold negD at h
  split at h
  · cases h; cases r1; exact ⟨_, rfl, val_of p hr (.int _)⟩
  · cases h
theorem iopD_add : OpR X (inplaceOp .Add) (rd2 X.K fun x y η => match x, y with
  | .int i, .int j => some (.int (i + j), η)
  | .str a, .str b => if a.length + b.length ≤ sizeLine then some (.str (a ++ b), η) else none
  | _, _ => none) := op_of (OpR.or iop_add iop_add_str) fun hr r1 r2 h p => by
  split at h
  · cases h; cases r1; cases r2; exact .inl ⟨_, _, rfl, rfl, val_of p hr (.int _)⟩
  · split at h
    · rename_i hl; cases h; cases r1; cases r2; exact .inr ⟨_, _, rfl, rfl, hl, val_of p hr (.str _)⟩
    · cases h
  · cases h
theorem iopD_sub : OpR X (inplaceOp .Sub) (rd2 X.K subD) := op_of iop_sub fun hr r1 r2 h p => by
  unfold subD at h
  split at h
  · cases h; cases r1; cases r2; exact ⟨_, _, rfl, rfl, val_of p hr (.int _)⟩
  · cases h
/-! ### order -/
def cmpI (p : Int → Int → Bool) : G2 := fun x y η => match x, y with
  | .int i, .int j => some (.bl (p i j), η)
  | _, _ => none
theorem opD_cmpI {op : CmpOp} {p : Int → Int → Bool} (ho : OpR X (compareOp op) (rI0 fun i j => .bl (p i j))) : OpR X (compareOp op) (rd2 X.K (cmpI p)) := op_of ho fun hr r1 r2 h q => by
  unfold cmpI at h
  split at h
  · cases h; cases r1; cases r2; exact ⟨_, _, rfl, rfl, val_of q hr (.bl _)⟩
  · cases h
abbrev ltI : G2 := cmpI fun i j => decide (i < j)
abbrev leI : G2 := cmpI fun i j => decide (i ≤ j)
abbrev gtI : G2 := cmpI fun i j => decide (j < i)
abbrev geI : G2 := cmpI fun i j => decide (j ≤ i)
theorem opD_lt : OpR X (compareOp .Lt) (rd2 X.K ltI) := opD_cmpI op_lt
theorem opD_le : OpR X (compareOp .LtE) (rd2 X.K leI) := opD_cmpI op_le
theorem opD_gt : OpR X (compareOp .Gt) (rd2 X.K gtI) := opD_cmpI op_gt
theorem opD_ge : OpR X (compareOp .GtE) (rd2 X.K geI) := opD_cmpI op_ge
/-! ### is -/
def isNon : D → Bool
  | .non => true
  | _ => false
def isD : G2 := fun x y η => match y with
  | .non => some (.bl (isNon x), η)
  | .bl b => match x with
    | .bl a => some (.bl (decide (a = b)), η)
    | _ => none
  | _ => none
def isNotD : G2 := fun x y η => match y with
  | .non => some (.bl (!isNon x), η)
  | .bl b => match x with
    | .bl a => some (.bl (!decide (a = b)), η)
    | _ => none
  | _ => none
theorem non_iff {v : V} {d : D} (r : RepV K w H v d) : decide (v = .non) = isNon d := by
  cases r <;> rfl
theorem opD_is : OpR X (compareOp .Is) (rd2 X.K isD) := op_of (OpR.or op_isN op_isBl) fun hr r1 r2 h p => by
  unfold isD at h
  split at h
  · cases h; cases r2; exact .inl ⟨rfl, by rw [non_iff r1]; exact val_of p hr (.bl _)⟩
  · split at h
    · cases h; cases r1; cases r2; exact .inr ⟨_, _, rfl, rfl, val_of p hr (.bl _)⟩
    · cases h
  · cases h
theorem opD_isNot : OpR X (compareOp .IsNot) (rd2 X.K isNotD) := op_of (OpR.or op_notN op_notBl) fun hr r1 r2 h p => by
  unfold isNotD at h
  split at h
  · cases h; cases r2; exact .inl ⟨rfl, by rw [non_iff r1]; exact val_of p hr (.bl _)⟩
  · split at h
    · cases h; cases r1; cases r2; exact .inr ⟨_, _, rfl, rfl, val_of p hr (.bl _)⟩
    · cases h
  · cases h
/-! ### == -/
mutual
/-- plain data, no thing that may change within -/
def pd0 : D → Option PyData
  | .non => some .none
  | .bl b => some (.bool b)
  | .int i => some (.int i)
  | .str x => some (.str x)
  | .tup xs => (pds0 xs).map .tuple
  | .lst xs => (pds0 xs).map .list
  | _ => none
def pds0 : List D → Option (List PyData)
  | [] => some []
  | x :: xs => match pd0 x, pds0 xs with
    | some d, some ds => some (d :: ds)
    | _, _ => none
end
def pd (d : D) (η : Store) : Option PyData := match d with
  | .obj i => (match η[i]? with
    | some (.lst xs) => (pds0 xs).map .list
    | _ => none)
  | d => pd0 d
mutual
theorem pd0_ok : ∀ {v : V} {d : D} {q : PyData}, RepV K w H v d → pd0 d = some q → Dp K H v q
  | _, _, _, .non, h => by cases h; exact .non
  | _, _, _, .bl b, h => by cases h; exact .bl b
  | _, _, _, .int i, h => by cases h; exact .int i
  | _, _, _, .str x, h => by cases h; exact .str x
  | _, _, _, .tup (ds := ds) s r, h => by
    have h' : (pds0 ds).map PyData.tuple = some _ := h
    cases e : pds0 ds with
    | none => rw [e] at h'; cases h'
    | some qs => rw [e] at h'; cases h'; exact .tup s.sq (pds0_ok r e)
  | _, _, _, .lst (ds := ds) s r, h => by
    have h' : (pds0 ds).map PyData.list = some _ := h
    cases e : pds0 ds with
    | none => rw [e] at h'; cases h'
    | some qs => rw [e] at h'; cases h'; exact .lst s.sq (pds0_ok r e)
  | _, _, _, .scr _ _, h => by cases h
  | _, _, _, .obj _, h => by cases h
  | _, _, _, .gl _, h => by cases h
  | _, _, _, .ty _, h => by cases h
theorem pds0_ok : ∀ {vs : List V} {ds : List D} {qs : List PyData}, RepVs K w H vs ds → pds0 ds = some qs → DpAll K H vs qs
  | _, _, _, .nil, h => by cases h; exact .nil
  | _, _, _, .cons (d := d) (ds := ds) r rs, h => by
    have h' : (match pd0 d, pds0 ds with
      | some d, some ds => some (d :: ds)
      | _, _ => none) = some _ := h
    cases e1 : pd0 d with
    | none => rw [e1] at h'; cases h'
    | some q =>
      cases e2 : pds0 ds with
      | none => rw [e1, e2] at h'; cases h'
      | some qs => rw [e1, e2] at h'; cases h'; exact .cons (pd0_ok r e1) (pds0_ok rs e2)
end
theorem pd_ok {v : V} {d : D} {q : PyData} (hr : HeapRel K w H η) (rv : RepV K w H v d) (h : pd d η = some q) : Dp K H v q := by
  cases d with
  | obj i =>
    cases rv with | obj ha => ?_
    dsimp only [pd] at h
    split at h
    · rename_i xs eo
      obtain ⟨ys, e, r⟩ := hr.at_ _ _ _ ha eo
      cases e2 : pds0 xs with
      | none => rw [e2] at h; cases h
      | some qs => rw [e2] at h; cases h; exact .lst (SqL.of e) (pds0_ok r e2)
    · cases h
  | _ => exact pd0_ok rv h
/-- the sizes and depths that == serves -/
def plainQ (q : PyData) : Prop := SeqAt.shaped q = true
open Classical in
noncomputable def eqD : G2 := fun x y η => match pd x η, pd y η with
  | some p, some q => if plainQ p ∧ plainQ q then some (.bl (PyData.eqv p q), η) else none
  | _, _ => none
open Classical in
noncomputable def neD : G2 := fun x y η => match pd x η, pd y η with
  | some p, some q => if plainQ p ∧ plainQ q then some (.bl (!PyData.eqv p q), η) else none
  | _, _ => none
theorem opD_eq (hu : X.A.units + 64 < cLine) : OpR X (compareOp .Eq) (rd2 X.K eqD) := op_of (op_eqD hu) fun hr r1 r2 h p => by
  unfold eqD at h
  split at h
  · rename_i e1 e2
    split at h
    · rename_i hq; cases h; exact ⟨_, _, pd_ok hr r1 e1, pd_ok hr r2 e2, hq.1, hq.2, val_of p hr (.bl _)⟩
    · cases h
  · cases h
theorem opD_ne (hu : X.A.units + 64 < cLine) : OpR X (compareOp .NotEq) (rd2 X.K neD) := op_of (op_neD hu) fun hr r1 r2 h p => by
  unfold neD at h
  split at h
  · rename_i e1 e2
    split at h
    · rename_i hq; cases h; exact ⟨_, _, pd_ok hr r1 e1, pd_ok hr r2 e2, hq.1, hq.2, val_of p hr (.bl _)⟩
    · cases h
  · cases h
/-! ### built-in calls -/
def lenD : GL := fun ds η => match ds with
  | [.str x] => if x.length ≤ sizeLine then some (.int x.length, η) else none
  | [.tup xs] => some (.int xs.length, η)
  | [d] => match seqL d η with
    | some xs => some (.int xs.length, η)
    | none => none
  | _ => none
theorem callD_len : CallR X (.builtin "len") (rdL X.K lenD) := call_of call_len fun hr r h p => by
  unfold lenD at h
  split at h
  · split at h
    · rename_i hl
      cases h
      cases r with | cons r1 r2 => ?_
      cases r2; cases r1
      exact ⟨_, _, rfl, ⟨hl, rfl⟩, val_of p hr (.int _)⟩
    · cases h
  · cases h
    cases r with | cons r1 r2 => ?_
    cases r2
    cases r1 with | tup s q => ?_
    exact ⟨_, _, rfl, .inr ⟨_, s.sq, rfl⟩, by rw [q.length]; exact val_of p hr (.int _)⟩
  · split at h
    · rename_i e
      cases h
      cases r with | cons r1 r2 => ?_
      cases r2
      obtain ⟨a, ys, rfl, s, q⟩ := seqL_ok hr r1 e
      exact ⟨_, _, rfl, .inl ⟨_, s, rfl⟩, by rw [q.length]; exact val_of p hr (.int _)⟩
    · cases h
  · cases h
def absD : GL := fun ds η => match ds with
  | [.int i] => some (.int (if i < 0 then -i else i), η)
  | _ => none
theorem callD_abs : CallR X (.builtin "abs") (rdL X.K absD) := call_of call_abs fun hr r h p => by
  unfold absD at h
  split at h
  · cases h
    cases r with | cons r1 r2 => ?_
    cases r2; cases r1
    exact ⟨_, rfl, val_of p hr (.int _)⟩
  · cases h
def max2D : GL := fun ds η => match ds with
  | [.int i, .int j] => some (.int (if j > i then j else i), η)
  | _ => none
def min2D : GL := fun ds η => match ds with
  | [.int i, .int j] => some (.int (if j < i then j else i), η)
  | _ => none
theorem callD_max2 (hc : X.calm = true) : CallR X (.builtin "max") (rdL X.K max2D) := call_of (call_max2 hc) fun hr r h p => by
  unfold max2D at h
  split at h
  · cases h
    cases r with | cons r1 r2 => ?_
    cases r2 with | cons r2 r3 => ?_
    cases r3; cases r1; cases r2
    exact ⟨_, _, rfl, val_of p hr (.int _)⟩
  · cases h
theorem callD_min2 (hc : X.calm = true) : CallR X (.builtin "min") (rdL X.K min2D) := call_of (call_min2 hc) fun hr r h p => by
  unfold min2D at h
  split at h
  · cases h
    cases r with | cons r1 r2 => ?_
    cases r2 with | cons r2 r3 => ?_
    cases r3; cases r1; cases r2
    exact ⟨_, _, rfl, val_of p hr (.int _)⟩
  · cases h
def intD : GL := fun ds η => match ds with
  | [.int i] => some (.int i, η)
  | [.bl b] => some (.int (if b then 1 else 0), η)
  | _ => none
theorem callD_int : CallR X (.type "int") (rdL X.K intD) := call_of call_int1 fun hr r h p => by
  unfold intD at h
  split at h
  · cases h
    cases r with | cons r1 r2 => ?_
    cases r2; cases r1
    exact .inl ⟨_, rfl, val_of p hr (.int _)⟩
  · cases h
    cases r with | cons r1 r2 => ?_
    cases r2; cases r1
    exact .inr ⟨_, rfl, val_of p hr (.int _)⟩
  · cases h
/-- tuple(x) -/
def tupleD : GL := fun ds η => match ds with
  | [.tup xs] => some (.tup xs, η)
  | [d] => match seqL d η with
    | some xs => some (.tup xs, η)
    | none => none
  | _ => none
theorem callD_tuple : CallR X (.type "tuple") (rdL X.K tupleD) := call_of call_tuple_of fun hr r h p => by
  unfold tupleD at h
  split at h
  · cases h
    cases r with | cons r1 r2 => ?_
    cases r2
    cases r1 with | tup s q => ?_
    exact ⟨_, _, rfl, .inr ⟨s.sq, val_of p hr (.tup s q)⟩⟩
  · split at h
    · rename_i e
      cases h
      cases r with | cons r1 r2 => ?_
      cases r2
      obtain ⟨a, ys, rfl, s, q⟩ := seqL_ok hr r1 e
      exact ⟨_, _, rfl, .inl ⟨s, fun l hl => tup_of p hr q hl⟩⟩
    · cases h
  · cases h
/-- list(x), as a value; as a thing -/
def listD : GL := fun ds η => match ds with
  | [.tup xs] => some (.lst xs, η)
  | [d] => match seqL d η with
    | some xs => some (.lst xs, η)
    | none => none
  | _ => none
def listO : GL := fun ds η => match ds with
  | [.tup xs] => some (.obj η.length, η ++ [.lst xs])
  | [d] => match seqL d η with
    | some xs => some (.obj η.length, η ++ [.lst xs])
    | none => none
  | _ => none
theorem callD_list : CallR X (.type "list") (rdL X.K listD) := call_of call_list_of fun hr r h p => by
  unfold listD at h
  split at h
  · cases h
    cases r with | cons r1 r2 => ?_
    cases r2
    cases r1 with | tup s q => ?_
    exact ⟨_, _, rfl, .inr s.sq, fun l hl => lst_of p hr q hl⟩
  · split at h
    · rename_i e
      cases h
      cases r with | cons r1 r2 => ?_
      cases r2
      obtain ⟨a, ys, rfl, s, q⟩ := seqL_ok hr r1 e
      exact ⟨_, _, rfl, .inl s, fun l hl => lst_of p hr q hl⟩
    · cases h
  · cases h
theorem callD_listO : CallR X (.type "list") (rdL X.K listO) := call_of call_list_of fun hr r h p => by
  unfold listO at h
  split at h
  · cases h
    cases r with | cons r1 r2 => ?_
    cases r2
    cases r1 with | tup s q => ?_
    exact ⟨_, _, rfl, .inr s.sq, fun l hl => obj_of p hr q hl⟩
  · split at h
    · rename_i e
      cases h
      cases r with | cons r1 r2 => ?_
      cases r2
      obtain ⟨a, ys, rfl, s, q⟩ := seqL_ok hr r1 e
      exact ⟨_, _, rfl, .inl s, fun l hl => obj_of p hr q hl⟩
    · cases h
  · cases h
/-- all, any of a list of bools -/
def boolsOf : List D → Option (List Bool)
  | [] => some []
  | .bl b :: r => (boolsOf r).map (b :: ·)
  | _ => none
theorem bools_ok : ∀ {vs : List V} {ds : List D} {bs : List Bool}, RepVs K w H vs ds → boolsOf ds = some bs → vs = bs.map V.bl
  | _, _, _, .nil, h => by cases h; rfl
  | _, _, _, .cons (d := d) (ds := ds) r rs, h => by
    cases d with
    | bl b =>
      have h' : (boolsOf ds).map (b :: ·) = some _ := h
      cases e : boolsOf ds with
      | none => rw [e] at h'; cases h'
      | some bs =>
        rw [e] at h'; cases h'
        cases r
        rw [List.map_cons, bools_ok rs e]
    | _ => cases h
def allD : GL := fun ds η => match ds with
  | [d] => match seqL d η with
    | some xs => (boolsOf xs).map fun bs => (.bl (bs.all id), η)
    | none => none
  | _ => none
def anyD : GL := fun ds η => match ds with
  | [d] => match seqL d η with
    | some xs => (boolsOf xs).map fun bs => (.bl (bs.any id), η)
    | none => none
  | _ => none
theorem callD_all (hc : X.calm = true) : CallR X (.builtin "all") (rdL X.K allD) := call_of (cr_all hc) fun hr r h p => by
  unfold allD at h
  split at h
  · split at h
    · rename_i e
      cases r with | cons r1 r2 => ?_
      cases r2
      obtain ⟨a, ys, rfl, s, q⟩ := seqL_ok hr r1 e
      cases eb : boolsOf ‹List D› with
      | none => rw [eb] at h; cases h
      | some bs =>
        rw [eb] at h
        cases h
        exact ⟨_, bs, rfl, by rw [← bools_ok q eb]; exact s, val_of p hr (.bl _)⟩
    · cases h
  · cases h
theorem callD_any (hc : X.calm = true) : CallR X (.builtin "any") (rdL X.K anyD) := call_of (cr_any hc) fun hr r h p => by
  unfold anyD at h
  split at h
  · split at h
    · rename_i e
      cases r with | cons r1 r2 => ?_
      cases r2
      obtain ⟨a, ys, rfl, s, q⟩ := seqL_ok hr r1 e
      cases eb : boolsOf ‹List D› with
      | none => rw [eb] at h; cases h
      | some bs =>
        rw [eb] at h
        cases h
        exact ⟨_, bs, rfl, by rw [← bools_ok q eb]; exact s, val_of p hr (.bl _)⟩
    · cases h
  · cases h
def intsOf : List D → Option (List Int)
  | [] => some []
  | .int b :: r => (intsOf r).map (b :: ·)
  | _ => none
theorem ints_ok : ∀ {vs : List V} {ds : List D} {bs : List Int}, RepVs K w H vs ds → intsOf ds = some bs → vs = bs.map V.int
  | _, _, _, .nil, h => by cases h; rfl
  | _, _, _, .cons (d := d) (ds := ds) r rs, h => by
    cases d with
    | int b =>
      have h' : (intsOf ds).map (b :: ·) = some _ := h
      cases e : intsOf ds with
      | none => rw [e] at h'; cases h'
      | some bs =>
        rw [e] at h'; cases h'
        cases r
        rw [List.map_cons, ints_ok rs e]
    | _ => cases h
theorem ints_map (ns : List Int) : intsOf (ns.map D.int) = some ns := by
  induction ns with
  | nil => rfl
  | cons n r ih => show (intsOf (r.map D.int)).map (n :: ·) = _; rw [ih]; rfl
theorem bools_map (ns : List Bool) : boolsOf (ns.map D.bl) = some ns := by
  induction ns with
  | nil => rfl
  | cons n r ih => show (boolsOf (r.map D.bl)).map (n :: ·) = _; rw [ih]; rfl
theorem ints_rep : ∀ (ns : List Int), RepVs K w H (ns.map V.int) (ns.map D.int)
  | [] => .nil
  | n :: r => .cons (.int n) (ints_rep r)
/-! ### subscripts -/
def ixD : G2 := fun x y η => match y with
  | .int i => (match x with
    | .tup xs => (atI xs i).map (·, η)
    | .str s => if s.length ≤ sizeLine then (atI s.cps.toList i).map fun c => (.str ⟨#[c]⟩, η) else none
    | x => match seqL x η with
      | some xs => (atI xs i).map (·, η)
      | none => none)
  | _ => none
theorem atI_rep {vs : List V} {ds : List D} {i : Int} {d : D} (r : RepVs K w H vs ds) (h : atI ds i = some d) : ∃ v, atI vs i = some v ∧ RepV K w H v d := by
  unfold atI at h ⊢
  rw [r.length]
  cases e : ixN ds.length i with
  | none => rw [e] at h; cases h
  | some j =>
    rw [e] at h
    exact r.get h
theorem ixD_seq : IxR X (rd2 X.K ixD) := ix_of ix_seq fun hr r1 r2 h p => by
  unfold ixD at h
  split at h
  · cases r2
    split at h
    · rename_i xs
      cases e : atI xs ‹Int› with
      | none => rw [e] at h; cases h
      | some d =>
        rw [e] at h; cases h
        cases r1 with | tup s q => ?_
        obtain ⟨v, ev, rv⟩ := atI_rep q e
        exact .inr (.inl ⟨_, _, _, v, rfl, rfl, s.sq, ev, val_of p hr rv⟩)
    · rename_i s
      split at h
      · rename_i hl
        cases e : atI s.cps.toList ‹Int› with
        | none => rw [e] at h; cases h
        | some c =>
          rw [e] at h; cases h
          cases r1
          exact .inr (.inr ⟨_, _, c, rfl, rfl, hl, e, val_of p hr (.str _)⟩)
      · cases h
    · split at h
      · rename_i xs es
        cases e : atI xs ‹Int› with
        | none => rw [e] at h; cases h
        | some d =>
          rw [e] at h; cases h
          obtain ⟨a, ys, rfl, s, q⟩ := seqL_ok hr r1 es
          obtain ⟨v, ev, rv⟩ := atI_rep q e
          exact .inl ⟨_, _, _, v, rfl, rfl, s, ev, val_of p hr rv⟩
      · cases h
  · cases h
/-! ### slices -/
def cutL (xs : List D) (lo hi : Option Int) : List D := (xs.drop (HT.sIx xs.length 0 lo)).take (HT.sIx xs.length xs.length hi - HT.sIx xs.length 0 lo)
theorem cutL_rep {vs : List V} {ds : List D} (r : RepVs K w H vs ds) (lo hi : Option Int) : RepVs K w H (cutV vs lo hi) (cutL ds lo hi) := by
  unfold cutV cutL
  rw [r.length]
  exact (r.drop _).take _
def slD : GS := fun x lo hi η => match x with
  | .tup xs => some (.tup (cutL xs lo hi), η)
  | x => match seqL x η with
    | some xs => some (.lst (cutL xs lo hi), η)
    | none => none
theorem cutL_whole {xs : List D} {lo hi : Option Int} (h : HT.sIx xs.length 0 lo = 0 ∧ HT.sIx xs.length xs.length hi = xs.length) : cutL xs lo hi = xs := by
  unfold cutL
  rw [h.1, h.2]
  simp
theorem slD_ok : SlR X (rdSl X.K slD) := sl_of (SlR.or sl_list sl_tupA) fun hr r1 h p => by
  unfold slD at h
  split at h
  · cases h
    cases r1 with | tup s q => ?_
    refine .inr ⟨_, _, rfl, s.sq, fun e => ?_, fun _ b hb => tup_of p hr (cutL_rep q _ _) hb⟩
    rw [q.length] at e
    rw [cutL_whole e] at p
    exact val_of p hr (.tup s q)
  · split at h
    · rename_i es
      cases h
      obtain ⟨a, ys, rfl, s, q⟩ := seqL_ok hr r1 es
      exact .inl ⟨_, _, rfl, s, fun b hb => lst_of p hr (cutL_rep q _ _) hb⟩
    · cases h
end
end Dn
/-! Dn part 7: zip, enumerate, range: what is walked. -/
namespace Dn
open PySem PySem.Spec PyProof.Rows L2
/-! ### a list or a tuple, its iterator -/
def SIt (t : Bool) (h : Heap) (it l : Addr) (i : Nat) : Prop := match t with
  | true => h.IsTupleIter it l i
  | false => h.IsListIter it l i
def SLs (t : Bool) (h : Heap) (l : Addr) (xs : Array Value) : Prop := match t with
  | true => h.IsTuple l xs
  | false => h.IsList l xs
def SqS (K : PySem.W.Frag) (H : Hp) (t : Bool) (a : Addr) (xs : List V) : Prop := match t with
  | true => SqT K H a xs
  | false => SqL K H a xs
abbrev itO (t : Bool) (l : Addr) : Obj := match t with
  | true => { cls := .type "tuple_iterator", data := .fields #[.ref l, .int 0 0] }
  | false => { cls := .type "list_iterator", data := .fields #[.ref l, .int 0 0] }
theorem SIt.live {t : Bool} {h : Heap} {it l : Addr} {i : Nat} (x : SIt t h it l i) : ∃ o, h.get? it = some o ∧ ∀ v, o.data ≠ .cell v := by
  cases t with
  | true => obtain ⟨o, e, _, d⟩ := (show h.IsTupleIter it l i from x); exact ⟨o, e, fun v q => by rw [d] at q; cases q⟩
  | false => obtain ⟨o, e, _, d⟩ := (show h.IsListIter it l i from x); exact ⟨o, e, fun v q => by rw [d] at q; cases q⟩
theorem SIt.at_ {t : Bool} {h h' : Heap} {it l : Addr} {i : Nat} (x : SIt t h it l i) (k : ∀ o, h.get? it = some o → h'.get? it = some o) : SIt t h' it l i := by
  cases t with
  | true => exact (show h.IsTupleIter it l i from x).at k
  | false => exact (show h.IsListIter it l i from x).at k
theorem SIt.new {t : Bool} {h : Heap} {it l : Addr} (e : h.get? it = some (itO t l)) : SIt t h it l 0 := by
  cases t with
  | true => exact ⟨_, e, rfl, rfl⟩
  | false => exact ⟨_, e, rfl, rfl⟩
theorem draws_s {prog : Program} {w : World} {A : Around} (hh : A.handled = none) (t : Bool) (it l : Addr) (hne : l ≠ it) (items : Array Value) :
    Draws prog w A it [it, l] items.size (fun i v => items[i]? = some v) (fun i h => SIt t h it l i ∧ SLs t h l items) := by
  cases t with
  | true => exact Draws.tuple hh it l hne items
  | false => exact Draws.list hh it l hne items
theorem s_ne {t : Bool} {h : Heap} {it l : Addr} {i : Nat} {xs : Array Value} (x : SIt t h it l i) (p : SLs t h l xs) : l ≠ it := fun q => by
  subst q
  cases t with
  | true =>
    obtain ⟨o', e', c', _⟩ := (show h.IsTuple l _ from p)
    obtain ⟨o2, e2, c2, _⟩ := (show h.IsTupleIter l l i from x)
    rw [e2] at e'; cases e'; rw [c2] at c'; simp at c'
  | false =>
    obtain ⟨o', e', c', _⟩ := (show h.IsList l _ from p)
    obtain ⟨o2, e2, c2, _⟩ := (show h.IsListIter l l i from x)
    rw [e2] at e'; cases e'; rw [c2] at c'; simp at c'
theorem begins_s (t : Bool) (l : Addr) (items : Array Value) : Begins (.ref l) (itO t l) fun h => SLs t h l items := by
  cases t with
  | true => exact begins_tuple l items
  | false => exact begins_list l items
section
variable {X : Cx} {pins : List (Addr × Obj)} {σ : L2.St} {H : Hp} {s : Shared} {a : Addr} {xs ys : List V} {t : Bool}
theorem inv_seq (I : Inv X pins σ H s) (h : SqS X.K H t a xs) : ∃ its : List Value, Vals xs its ∧ SLs t s.heap a its.toArray ∧ its.toArray.size = xs.length := by
  cases t with
  | true => obtain ⟨its, rv, p, _⟩ := I.tuple h; exact ⟨its, rv, p, by simp [rv.length]⟩
  | false => obtain ⟨its, rv, p, _⟩ := I.list h; exact ⟨its, rv, p.isList, by simp [rv.length]⟩
theorem seq_inj (I : Inv X pins σ H s) (h : SqS X.K H t a xs) (h' : SqS X.K H t a ys) : xs = ys := by
  cases t with
  | true => exact I.tuple_inj h h'
  | false => exact I.list_inj h h'
theorem seq_lt (I : Inv X pins σ H s) (h : SqS X.K H t a xs) : a < s.heap.objs.size := by
  obtain ⟨its, _, p, _⟩ := inv_seq I h
  cases t with
  | true => obtain ⟨_, e, _⟩ := (show s.heap.IsTuple a _ from p); exact Heap.lt_size e
  | false => obtain ⟨_, e, _⟩ := (show s.heap.IsList a _ from p); exact Heap.lt_size e
/-- one turn of a walk that hands out new tuples -/
theorem walkT_item {It : Addr} {fp wr : List Addr} {n i : Nat} {Pt : Nat → Array Value → Prop} {St : Nat → Heap → Prop} {Mid : Nat → Addr → Heap → Prop} {elts : List Expr} {kk : Nat} {tpos : Pos} {E : Value → Shared → Prop} {xs : List V}
    (Wk : WalksT X.prog X.w X.A It fp wr n Pt St Mid) (I : Inv X pins σ H s) (st : St i s.heap) (hi : i < n) (hf : ∀ b ∈ wr, FpOk X pins H b) (hv : ∀ vals, Pt i vals → Vals xs vals.toList) (hz : xs.length ≤ sizeLine) :
    wpAny (model X.prog X.w) X.A (pyNext (.ref It)) (fun r s1 => ∃ u, r = some u ∧
      wpAny (model X.prog X.w) X.A (letOwnedTupleGo (.Tuple elts kk tpos) (.ref It) u) (fun _ s2 => ∃ T, u = .ref T ∧ H T = none ∧ s.heap.objs.size ≤ T ∧ Inv X pins σ (upd H T (.tup xs)) s2 ∧ St (i + 1) s2.heap ∧
        ∀ b o, b ∉ wr → s.heap.get? b = some o → s2.heap.get? b = some o) E s1) E s := by
  refine Wk.item i s _ _ hi st fun T vals h' tk hP hT ht hm hk => ⟨_, rfl, ?_⟩
  refine Wk.go elts kk tpos i T { s with heap := h', toks := tk } _ _ hm fun h'' hs hk2 => ?_
  have hTw : T ∉ wr := Wk.apart i T h' hm
  have hn : H T = none := I.hok.fresh hT
  refine ⟨T, rfl, hn, hT, ?_, hs, fun b o hb e => hk2 b o hb (hk b o hb e)⟩
  have ht2 : h''.IsTuple T vals := ht.at fun o e => hk2 T o hTw e
  refine I.turnedNew (t' := tk) (ch := wr) (fun b o hb e => hk2 b o hb (hk b o hb e)) hf hT ⟨hz, vals.toList, hv vals hP, ?_⟩
  have : vals.toList.toArray = vals := by simp
  rw [this]
  exact ht2
theorem walkT_done {It : Addr} {fp wr : List Addr} {n : Nat} {Pt : Nat → Array Value → Prop} {St : Nat → Heap → Prop} {Mid : Nat → Addr → Heap → Prop} {E : Value → Shared → Prop}
    (Wk : WalksT X.prog X.w X.A It fp wr n Pt St Mid) (I : Inv X pins σ H s) (st : St n s.heap) (hf : ∀ b ∈ wr, FpOk X pins H b) :
    wpAny (model X.prog X.w) X.A (pyNext (.ref It)) (fun r s1 => r = none ∧ Inv X pins σ H s1) E s :=
  Wk.done s _ _ st fun h' tk hk => ⟨rfl, I.turnedL (t' := tk) (ch := wr) hk hf⟩
end

/-! ### zip of two -/
def It2 (K : PySem.W.Frag) (t1 t2 : Bool) (a b : Addr) : It :=
  ⟨fun i H => ∃ (xs ys : List V) (x y : V), SqS K H t1 a xs ∧ SqS K H t2 b ys ∧ xs[i]? = some x ∧ ys[i]? = some y,
    fun i H v H' => ∃ T x y, v = .ref T ∧ H T = none ∧ H' = upd H T (.tup [x, y]) ∧ (∀ xs, SqS K H t1 a xs → xs[i]? = some x) ∧ ∀ ys, SqS K H t2 b ys → ys[i]? = some y,
    fun i H => ∃ xs ys : List V, SqS K H t1 a xs ∧ SqS K H t2 b ys ∧ i ≤ xs.length ∧ i ≤ ys.length ∧ (i = xs.length ∨ i = ys.length)⟩
theorem turn_zip2 {P : Program} {w : World} {K : PySem.W.Frag} {elts : List Expr} {kk : Nat} {tpos : Pos} {t1 t2 : Bool} {a b z TI TO i1 i2 : Addr} (D : ZipSep2 z TI TO i1 i2 [i1, a] [i2, b]) :
    Turn P w K (.Tuple elts kk tpos) (It2 K t1 t2 a b) [z, TI, TO, i1, i2] z (fun i h => IsZip h z TI TO .none ∧ IsTupOf2 h TI (.ref i1) (.ref i2) ∧ (∃ x y, IsTupOf2 h TO x y) ∧ SIt t1 h i1 a i ∧ SIt t2 h i2 b i) where
  mem := by simp
  obj := fun i h st c hc => by
    obtain ⟨hz, hTI, ⟨x, y, hTO⟩, h1, h2⟩ := st
    have e' : c = z ∨ c = TI ∨ c = TO ∨ c = i1 ∨ c = i2 := by simpa using hc
    rcases e' with q | q | q | q | q
    · rw [q]; exact ⟨_, hz, fun v q => nomatch q⟩
    · rw [q]; exact ⟨_, hTI, fun v q => nomatch q⟩
    · rw [q]; exact ⟨_, hTO, fun v q => nomatch q⟩
    · rw [q]; exact h1.live
    · rw [q]; exact h2.live
  keep := fun i h h' st k => by
    obtain ⟨hz, hTI, ⟨x, y, hTO⟩, h1, h2⟩ := st
    exact ⟨k z (by simp) _ hz, k TI (by simp) _ hTI, ⟨x, y, k TO (by simp) _ hTO⟩, h1.at_ fun o q => k i1 (by simp) o q, h2.at_ fun o q => k i2 (by simp) o q⟩
  item := by
    intro X hP hw hK hc i pins s σ H E I hf st hg
    subst hP hw hK
    obtain ⟨hz, hTI, hTO, h1, h2⟩ := st
    obtain ⟨xs, ys, x, y, hqx, hqy, hx, hy⟩ := hg
    obtain ⟨its, rv, p, l1⟩ := inv_seq I hqx
    obtain ⟨its2, rv2, p2, l2⟩ := inv_seq I hqy
    have hi1 := (List.getElem?_eq_some_iff.mp hx).1
    have hi2 := (List.getElem?_eq_some_iff.mp hy).1
    have n1 : a ≠ i1 := s_ne h1 p
    have n2 : b ≠ i2 := s_ne h2 p2
    have Wk := WalksT.zipD2 (prog := X.prog) (w := X.w) (A := X.A) D (draws_s (A := X.A.in1) (I.ok.hd hc) t1 i1 a n1 its.toArray) (draws_s (A := X.A.in1) (I.ok.hd hc) t2 i2 b n2 its2.toArray)
    refine wpAny_mono (walkT_item (xs := [x, y]) Wk I ⟨hz, hTI, hTO, ⟨h1, p⟩, ⟨h2, p2⟩⟩ (by rw [l1, l2]; omega) (fun c hc' => hf c (by
      have e' : c = z ∨ c = TO ∨ c = i1 ∨ c = i2 := by simpa using hc'
      rcases e' with q | q | q | q <;> simp [q])) (fun vals ⟨x1, x2, q1, q2, e⟩ => ?_) (by show 2 ≤ sizeLine; decide)) (fun r s1 ⟨u, e1, q⟩ => ⟨u, e1, wpAny_mono q (fun _ s2 ⟨T, eu, hn, hle, I2, st2, hk⟩ => ?_) fun _ _ e => e⟩) fun _ _ e => e
    · subst e
      obtain ⟨u, hu, ru⟩ := rv.get hx
      obtain ⟨u2, hu2, ru2⟩ := rv2.get hy
      have e1 : its[i]? = some x1 := by simpa using q1
      have e2 : its2[i]? = some x2 := by simpa using q2
      rw [hu] at e1; cases e1
      rw [hu2] at e2; cases e2
      exact .cons ru (.cons ru2 .nil)
    · subst eu
      obtain ⟨z1, z2, z3, ⟨z4, _⟩, ⟨z5, _⟩⟩ := st2
      refine ⟨.ref T, _, I2, rfl, ⟨T, x, y, rfl, hn, rfl, fun l hl => by rw [seq_inj I hl hqx]; exact hx, fun l hl => by rw [seq_inj I hl hqy]; exact hy⟩, ⟨z1, z2, z3, z4, z5⟩, fun c hcm => ?_⟩
      have hlt : c < s.heap.objs.size := by
        have e' : c = z ∨ c = TI ∨ c = TO ∨ c = i1 ∨ c = i2 := by simpa using hcm
        rcases e' with q | q | q | q | q
        · rw [q]; exact Heap.lt_size hz
        · rw [q]; exact Heap.lt_size hTI
        · rw [q]; obtain ⟨_, _, hTO⟩ := hTO; exact Heap.lt_size hTO
        · rw [q]; obtain ⟨_, e1, _⟩ := h1.live; exact Heap.lt_size e1
        · rw [q]; obtain ⟨_, e2, _⟩ := h2.live; exact Heap.lt_size e2
      rw [upd_ne (Nat.ne_of_lt (Nat.lt_of_lt_of_le hlt hle))]
      exact (hf c hcm).1
  done := by
    intro X hP hw hK hc i pins s σ H E I hf st hg
    subst hP hw hK
    obtain ⟨hz, hTI, ⟨a1, a2, hTO⟩, h1, h2⟩ := st
    obtain ⟨xs, ys, hqx, hqy, le1, le2, hend⟩ := hg
    obtain ⟨its, rv, p, l1⟩ := inv_seq I hqx
    obtain ⟨its2, rv2, p2, l2⟩ := inv_seq I hqy
    have n1 : a ≠ i1 := s_ne h1 p
    have n2 : b ≠ i2 := s_ne h2 p2
    refine wpAny_pyNext_zipD2_end D (draws_s (A := X.A.in1) (I.ok.hd hc) t1 i1 a n1 its.toArray) (draws_s (A := X.A.in1) (I.ok.hd hc) t2 i2 b n2 its2.toArray) hz hTI hTO ⟨h1, p⟩ ⟨h2, p2⟩ (by rw [l1]; exact le1) (by rw [l2]; exact le2) (by rw [l1, l2]; exact hend) fun h' tk hk => ⟨rfl, ?_⟩
    exact I.turnedL (t' := tk) (ch := [z, TI, TO, i1, i2]) (fun c o hb q => hk c o (fun q' => hb (by simp [q'])) (fun q' => hb (by simp [q'])) (fun q' => hb (by simp [q'])) (fun q' => hb (by simp [q'])) q) hf
  self := fun A i s Q E st h => wpAny_pyIter_zip st.1 h

/-! ### zip of three -/
def It3 (K : PySem.W.Frag) (t1 t2 t3 : Bool) (a b c : Addr) : It :=
  ⟨fun i H => ∃ (xs ys zs : List V) (x y u : V), SqS K H t1 a xs ∧ SqS K H t2 b ys ∧ SqS K H t3 c zs ∧ xs[i]? = some x ∧ ys[i]? = some y ∧ zs[i]? = some u,
    fun i H v H' => ∃ T x y u, v = .ref T ∧ H T = none ∧ H' = upd H T (.tup [x, y, u]) ∧ (∀ xs, SqS K H t1 a xs → xs[i]? = some x) ∧ (∀ ys, SqS K H t2 b ys → ys[i]? = some y) ∧ ∀ zs, SqS K H t3 c zs → zs[i]? = some u,
    fun i H => ∃ xs ys zs : List V, SqS K H t1 a xs ∧ SqS K H t2 b ys ∧ SqS K H t3 c zs ∧ i ≤ xs.length ∧ i ≤ ys.length ∧ i ≤ zs.length ∧ (i = xs.length ∨ i = ys.length ∨ i = zs.length)⟩
theorem turn_zip3 {P : Program} {w : World} {K : PySem.W.Frag} {elts : List Expr} {kk : Nat} {tpos : Pos} {t1 t2 t3 : Bool} {a b d z TI TO i1 i2 i3 : Addr} (D : ZipSep3 z TI TO i1 i2 i3 [i1, a] [i2, b] [i3, d]) :
    Turn P w K (.Tuple elts kk tpos) (It3 K t1 t2 t3 a b d) [z, TI, TO, i1, i2, i3] z (fun i h => IsZip h z TI TO .none ∧ IsTupOf3 h TI (.ref i1) (.ref i2) (.ref i3) ∧ (∃ x y u, IsTupOf3 h TO x y u) ∧ SIt t1 h i1 a i ∧ SIt t2 h i2 b i ∧ SIt t3 h i3 d i) where
  mem := by simp
  obj := fun i h st c hc => by
    obtain ⟨hz, hTI, ⟨x, y, u, hTO⟩, h1, h2, h3⟩ := st
    have e' : c = z ∨ c = TI ∨ c = TO ∨ c = i1 ∨ c = i2 ∨ c = i3 := by simpa using hc
    rcases e' with q | q | q | q | q | q
    · rw [q]; exact ⟨_, hz, fun v q => nomatch q⟩
    · rw [q]; exact ⟨_, hTI, fun v q => nomatch q⟩
    · rw [q]; exact ⟨_, hTO, fun v q => nomatch q⟩
    · rw [q]; exact h1.live
    · rw [q]; exact h2.live
    · rw [q]; exact h3.live
  keep := fun i h h' st k => by
    obtain ⟨hz, hTI, ⟨x, y, u, hTO⟩, h1, h2, h3⟩ := st
    exact ⟨k z (by simp) _ hz, k TI (by simp) _ hTI, ⟨x, y, u, k TO (by simp) _ hTO⟩, h1.at_ fun o q => k i1 (by simp) o q, h2.at_ fun o q => k i2 (by simp) o q, h3.at_ fun o q => k i3 (by simp) o q⟩
  item := by
    intro X hP hw hK hc i pins s σ H E I hf st hg
    subst hP hw hK
    obtain ⟨hz, hTI, hTO, h1, h2, h3⟩ := st
    obtain ⟨xs, ys, zs, x, y, u0, hqx, hqy, hqz, hx, hy, hu0⟩ := hg
    obtain ⟨its, rv, p, l1⟩ := inv_seq I hqx
    obtain ⟨its2, rv2, p2, l2⟩ := inv_seq I hqy
    obtain ⟨its3, rv3, p3, l3⟩ := inv_seq I hqz
    have hi1 := (List.getElem?_eq_some_iff.mp hx).1
    have hi2 := (List.getElem?_eq_some_iff.mp hy).1
    have hi3 := (List.getElem?_eq_some_iff.mp hu0).1
    have Wk := WalksT.zipD3 (prog := X.prog) (w := X.w) (A := X.A) D (draws_s (A := X.A.in1) (I.ok.hd hc) t1 i1 a (s_ne h1 p) its.toArray) (draws_s (A := X.A.in1) (I.ok.hd hc) t2 i2 b (s_ne h2 p2) its2.toArray) (draws_s (A := X.A.in1) (I.ok.hd hc) t3 i3 d (s_ne h3 p3) its3.toArray)
    refine wpAny_mono (walkT_item (xs := [x, y, u0]) Wk I ⟨hz, hTI, hTO, ⟨h1, p⟩, ⟨h2, p2⟩, ⟨h3, p3⟩⟩ (by rw [l1, l2, l3]; omega) (fun c hc' => hf c (by
      have e' : c = z ∨ c = TO ∨ c = i1 ∨ c = i2 ∨ c = i3 := by simpa using hc'
      rcases e' with q | q | q | q | q <;> simp [q])) (fun vals ⟨x1, x2, x3, q1, q2, q3, e⟩ => ?_) (by show 3 ≤ sizeLine; decide)) (fun r s1 ⟨u, e1, q⟩ => ⟨u, e1, wpAny_mono q (fun _ s2 ⟨T, eu, hn, hle, I2, st2, hk⟩ => ?_) fun _ _ e => e⟩) fun _ _ e => e
    · subst e
      obtain ⟨u, hu, ru⟩ := rv.get hx
      obtain ⟨u2, hu2, ru2⟩ := rv2.get hy
      obtain ⟨u3, hu3, ru3⟩ := rv3.get hu0
      have e1 : its[i]? = some x1 := by simpa using q1
      have e2 : its2[i]? = some x2 := by simpa using q2
      have e3 : its3[i]? = some x3 := by simpa using q3
      rw [hu] at e1; cases e1
      rw [hu2] at e2; cases e2
      rw [hu3] at e3; cases e3
      exact .cons ru (.cons ru2 (.cons ru3 .nil))
    · subst eu
      obtain ⟨z1, z2, z3, ⟨z4, _⟩, ⟨z5, _⟩, ⟨z6, _⟩⟩ := st2
      refine ⟨.ref T, _, I2, rfl, ⟨T, x, y, u0, rfl, hn, rfl, fun l hl => by rw [seq_inj I hl hqx]; exact hx, fun l hl => by rw [seq_inj I hl hqy]; exact hy, fun l hl => by rw [seq_inj I hl hqz]; exact hu0⟩, ⟨z1, z2, z3, z4, z5, z6⟩, fun c hcm => ?_⟩
      have hlt : c < s.heap.objs.size := by
        have e' : c = z ∨ c = TI ∨ c = TO ∨ c = i1 ∨ c = i2 ∨ c = i3 := by simpa using hcm
        rcases e' with q | q | q | q | q | q
        · rw [q]; exact Heap.lt_size hz
        · rw [q]; exact Heap.lt_size hTI
        · rw [q]; obtain ⟨_, _, _, hTO⟩ := hTO; exact Heap.lt_size hTO
        · rw [q]; obtain ⟨_, e1, _⟩ := h1.live; exact Heap.lt_size e1
        · rw [q]; obtain ⟨_, e2, _⟩ := h2.live; exact Heap.lt_size e2
        · rw [q]; obtain ⟨_, e3, _⟩ := h3.live; exact Heap.lt_size e3
      rw [upd_ne (Nat.ne_of_lt (Nat.lt_of_lt_of_le hlt hle))]
      exact (hf c hcm).1
  done := by
    intro X hP hw hK hc i pins s σ H E I hf st hg
    subst hP hw hK
    obtain ⟨hz, hTI, ⟨a1, a2, a3, hTO⟩, h1, h2, h3⟩ := st
    obtain ⟨xs, ys, zs, hqx, hqy, hqz, le1, le2, le3, hend⟩ := hg
    obtain ⟨its, rv, p, l1⟩ := inv_seq I hqx
    obtain ⟨its2, rv2, p2, l2⟩ := inv_seq I hqy
    obtain ⟨its3, rv3, p3, l3⟩ := inv_seq I hqz
    refine wpAny_pyNext_zipD3_end D (draws_s (A := X.A.in1) (I.ok.hd hc) t1 i1 a (s_ne h1 p) its.toArray) (draws_s (A := X.A.in1) (I.ok.hd hc) t2 i2 b (s_ne h2 p2) its2.toArray) (draws_s (A := X.A.in1) (I.ok.hd hc) t3 i3 d (s_ne h3 p3) its3.toArray)
      hz hTI hTO ⟨h1, p⟩ ⟨h2, p2⟩ ⟨h3, p3⟩ (by rw [l1]; exact le1) (by rw [l2]; exact le2) (by rw [l3]; exact le3) (by rw [l1, l2, l3]; exact hend) fun h' tk hk => ⟨rfl, ?_⟩
    exact I.turnedL (t' := tk) (ch := [z, TI, TO, i1, i2, i3]) (fun c o hb q => hk c o (fun q' => hb (by simp [q'])) (fun q' => hb (by simp [q'])) (fun q' => hb (by simp [q'])) (fun q' => hb (by simp [q'])) (fun q' => hb (by simp [q'])) q) hf
  self := fun A i s Q E st h => wpAny_pyIter_zip st.1 h
/-! ### enumerate -/
def ItE (K : PySem.W.Frag) (t : Bool) (a : Addr) : It :=
  ⟨fun i H => ∃ (xs : List V) (x : V), SqS K H t a xs ∧ xs[i]? = some x, fun i H v H' => ∃ T x, v = .ref T ∧ H T = none ∧ H' = upd H T (.tup [.int (i : Nat), x]) ∧ ∀ xs, SqS K H t a xs → xs[i]? = some x, fun i H => ∃ xs : List V, SqS K H t a xs ∧ i = xs.length⟩
theorem turn_enumS {P : Program} {w : World} {K : PySem.W.Frag} {elts : List Expr} {kk : Nat} {tpos : Pos} {t : Bool} {a e it : Addr} (hei : e ≠ it) (hea : e ≠ a) :
    Turn P w K (.Tuple elts kk tpos) (ItE K t a) [e, it] e (fun i h => (∃ old, IsEnum h e it (0 + (i : Int)) old) ∧ SIt t h it a i) where
  mem := by simp
  obj := fun i h st b hb => by
    obtain ⟨⟨old, he⟩, h1⟩ := st
    have e' : b = e ∨ b = it := by simpa using hb
    rcases e' with z | z
    · rw [z]; exact ⟨_, he, fun v q => nomatch q⟩
    · rw [z]; exact h1.live
  keep := fun i h h' st k => let ⟨⟨old, he⟩, hi⟩ := st; ⟨⟨old, k e (by simp) _ he⟩, hi.at_ fun o q => k it (by simp) o q⟩
  item := by
    intro X hP hw hK hc i pins s σ H E I hf st hg
    subst hP hw hK
    obtain ⟨he, h1⟩ := st
    obtain ⟨xs, x, hq, hx⟩ := hg
    obtain ⟨its, rv, p, l1⟩ := inv_seq I hq
    have hi1 := (List.getElem?_eq_some_iff.mp hx).1
    have Wk := WalksT.enumFrom (prog := X.prog) (w := X.w) (A := X.A) 0 (draws_s (A := X.A.in1) (I.ok.hd hc) t it a (s_ne h1 p) its.toArray) e hei (by simp [hei, hea]) (by simp)
    refine wpAny_mono (walkT_item (xs := [.int (i : Nat), x]) Wk I ⟨he, ⟨h1, p⟩⟩ (by rw [l1]; omega) (fun c hc' => hf c hc') (fun vals ⟨tk, x1, q1, ev⟩ => ?_) (by show 2 ≤ sizeLine; decide)) (fun r s1 ⟨u, e1, q⟩ => ⟨u, e1, wpAny_mono q (fun _ s2 ⟨T, eu, hn, hle, I2, st2, hk⟩ => ?_) fun _ _ e => e⟩) fun _ _ e => e
    · subst ev
      obtain ⟨u, hu, ru⟩ := rv.get hx
      have e1 : its[i]? = some x1 := by simpa using q1
      rw [hu] at e1; cases e1
      exact .cons ⟨tk, by rw [Int.zero_add]⟩ (.cons ru .nil)
    · subst eu
      obtain ⟨z1, ⟨z2, _⟩⟩ := st2
      refine ⟨.ref T, _, I2, rfl, ⟨T, x, rfl, hn, rfl, fun l hl => by rw [seq_inj I hl hq]; exact hx⟩, ⟨z1, z2⟩, fun c hcm => ?_⟩
      have hlt : c < s.heap.objs.size := by
        have e' : c = e ∨ c = it := by simpa using hcm
        rcases e' with q | q
        · rw [q]; obtain ⟨_, he⟩ := he; exact Heap.lt_size he
        · rw [q]; obtain ⟨_, e1, _⟩ := h1.live; exact Heap.lt_size e1
      rw [upd_ne (Nat.ne_of_lt (Nat.lt_of_lt_of_le hlt hle))]
      exact (hf c hcm).1
  done := by
    intro X hP hw hK hc i pins s σ H E I hf st hg
    subst hP hw hK
    obtain ⟨he, h1⟩ := st
    obtain ⟨xs, hq, hi⟩ := hg
    obtain ⟨its, rv, p, l1⟩ := inv_seq I hq
    have Wk := WalksT.enumFrom (prog := X.prog) (w := X.w) (A := X.A) 0 (draws_s (A := X.A.in1) (I.ok.hd hc) t it a (s_ne h1 p) its.toArray) e hei (by simp [hei, hea]) (by simp)
    refine walkT_done Wk I ?_ hf
    rw [l1, ← hi]
    exact ⟨he, h1, p⟩
  self := fun A i s Q E st h => let ⟨⟨_, he⟩, _⟩ := st; wpAny_pyIter_enum he h
set_option maxHeartbeats 1000000 in
theorem meets_enumerate_newB0 {v : Value} {o : Obj} {H : Heap → Prop} (B : Begins v o H) :
    Meets (Builtin.«enumerate.__new__» ⟨[.type "enumerate", v], []⟩) (fun _ R s => H s.heap ∧
      R (.ok (.ret (.ref (s.heap.push o).objs.size))) { s with heap := (s.heap.push o).push { cls := .type "enumerate", data := .fields #[.none, .bool false, .ref s.heap.objs.size, rawInt 0, .none, .none] } }) :=
  .of_wp fun prog w A R s h => by
    obtain ⟨hp, g, d, tk, os⟩ := s; obtain ⟨h1, h⟩ := h
    have hsub := sub_enumerate
    have q1 : ∀ {A' : Around} {E : Value → Shared → Prop} {Q : Value → Shared → Prop} {tk : Nat}, Q (.ref hp.objs.size) ⟨hp.push o, g, d, tk, os⟩ → wpAny (model prog w) A' (pyIter v) Q E ⟨hp, g, d, tk, os⟩ :=
      fun q => B.iter prog w _ _ ⟨hp, g, d, _, os⟩ _ h1 q
    wp_walk using q1
    refine wpAny_stack_any fun st => wpAny_pure ?_
    split
    · rename_i c _ _ _ _ _
      cases (c == Value.type "enumerate")
      · wp_walk using q1
        exact ⟨_, rfl, h⟩
      · wp_walk using q1
        exact ⟨_, rfl, h⟩
    · wp_walk using q1
      exact ⟨_, rfl, h⟩
end Dn
/-! Dn part 8: zip, enumerate, range over data. -/
namespace Dn
open PySem PySem.Spec PyProof.Rows L2
section
variable {prog : Program} {w : World} {A : Around} {E : Value → Shared → Prop} {s : Shared}
theorem enum_begins0 {v : Value} {o : Obj} {H : Heap → Prop} {Q : Value → Shared → Prop} (B : Begins v o H) (h1 : H s.heap)
    (h : ∀ h', IsEnum h' (s.heap.objs.size + 1) s.heap.objs.size 0 .none → h'.get? s.heap.objs.size = some o → h'.objs.size = s.heap.objs.size + 2 →
      (∀ b o, s.heap.get? b = some o → h'.get? b = some o) → Q (.ref (s.heap.objs.size + 1)) { s with heap := h' }) :
    wpAny (model prog w) A (call (.type "enumerate") [v]) Q E s := by
  refine callType_new F.called_enumerate (by decide) (F.typeCall_enumerate_1 _) (F.newCall_enumerate_1 _) (fun obj => F.args_object_init_2 obj _) F.entry_enumerate_new
    (meets_enumerate_newB0 B) ⟨h1, ?_⟩
  have hz : (s.heap.push o).objs.size = s.heap.objs.size + 1 := Heap.size_push ..
  show _ ∧ _
  rw [hz]
  have he : IsEnum ((s.heap.push o).push { cls := .type "enumerate", data := .fields #[.none, .bool false, .ref s.heap.objs.size, rawInt 0, .none, .none] }) (s.heap.objs.size + 1) s.heap.objs.size 0 .none := by
    have := Heap.get?_push_size (s.heap.push o) (o := { cls := .type "enumerate", data := .fields #[.none, .bool false, .ref s.heap.objs.size, rawInt 0, .none, .none] }) rfl
    rw [hz] at this; exact this
  refine ⟨⟨_, he, rfl⟩, h _ he (Heap.get?_push_of_some _ (Heap.get?_push_size _ B.free)) (by rw [Heap.size_push, hz]) fun b o x => Heap.get?_push_of_some _ (Heap.get?_push_of_some _ x)⟩
end
section
variable {X : Cx} {W : WX} {K : PySem.W.Frag} {w w1 w' : Wd} {H H1 H' : Hp} {η : Store} {fA : FA} {p pos tpos : Pos} {e e2 e3 : Expr}
/-- a list, a tuple, as it may be walked with others: kind, source -/
def sqOf : D → Store → Option Src
  | .tup xs, _ => some (.val xs)
  | .lst xs, _ => some (.val xs)
  | .scr xs, _ => some (.val xs)
  | .obj k, η => match η[k]? with
    | some (.lst _) => some (.dyn (objAt k))
    | _ => none
  | _, _ => none
/-- v is a sequence at a, of the kind t, whose items the source tells, now and later -/
structure SqOk (K : PySem.W.Frag) (w : Wd) (H : Hp) (t : Bool) (a : Addr) (src : Src) : Prop where
  now : ∃ xs, SqS K H t a xs
  at_ : ∀ i w' H' η x, Ext w H w' H' → HeapRel K w' H' η → src.at i η = some x → ∃ xs v, SqS K H' t a xs ∧ xs[i]? = some v ∧ RepV K w' H' v x
  fin : ∀ i w' H' η, Ext w H w' H' → HeapRel K w' H' η → src.fin i η → ∃ xs, SqS K H' t a xs ∧ xs.length = i
  le : ∀ i w' H' η x, Ext w H w' H' → HeapRel K w' H' η → src.at i η = some x → ∃ xs, SqS K H' t a xs ∧ i ≤ xs.length
theorem sqOk {v : V} {d : D} {src : Src} (hr : HeapRel K w H η) (rv : RepV K w H v d) (h : sqOf d η = some src) : ∃ t a, v = .ref a ∧ SqOk K w H t a src := by
  have mk : ∀ {t : Bool} {a : Addr} {xs : List V} {ds : List D}, (∀ w' H', Ext w H w' H' → SqS K H' t a xs) → RepVs K w H xs ds → SqOk K w H t a (.val ds) := fun {t a xs ds} hs r => by
    refine ⟨⟨xs, hs w H .refl⟩, fun i w' H' η x ex _ hx => ?_, fun i w' H' η ex _ hf => ⟨xs, hs _ _ ex, by rw [r.length]; exact hf⟩, fun i w' H' η x ex _ hx => ⟨xs, hs _ _ ex, ?_⟩⟩
    · obtain ⟨v, hv, rv⟩ := r.get (show ds[i]? = some x from hx)
      exact ⟨_, v, hs _ _ ex, hv, rv.ext ex⟩
    · rw [r.length]; exact Nat.le_of_lt (List.getElem?_eq_some_iff.mp (show ds[i]? = some x from hx)).1
  cases d with
  | tup ds =>
    cases rv with | tup hs r => ?_
    cases h
    exact ⟨true, _, rfl, mk (fun _ _ ex => (hs.ext ex).sq) r⟩
  | lst ds =>
    cases rv with | lst hs r => ?_
    cases h
    exact ⟨false, _, rfl, mk (fun _ _ ex => (hs.ext ex).sq) r⟩
  | scr ds =>
    cases rv with | scr hs r => ?_
    cases h
    exact ⟨false, _, rfl, mk (fun _ _ ex => (hs.ext ex).sq) r⟩
  | obj k =>
    cases rv with | obj ha => ?_
    dsimp only [sqOf] at h
    split at h
    · rename_i ds0 eo0
      cases h
      obtain ⟨ys, e0, _⟩ := hr.at_ _ _ _ ha eo0
      have get : ∀ {i : Nat} {w' : Wd} {H' : Hp} {η : Store} {r : Option D}, Ext w H w' H' → HeapRel K w' H' η → objAt k i η = some r → ∃ xs ds, SqL K H' _ xs ∧ RepVs K w' H' xs ds ∧ i ≤ ds.length ∧ ds[i]? = r := fun {i w' H' η r} ex hr' hx => by
        dsimp only [objAt] at hx
        cases eo : η[k]? with
        | none => rw [eo] at hx; cases hx
        | some ob =>
          rw [eo] at hx
          cases ob with
          | lst ds =>
            dsimp only at hx
            split at hx
            · rename_i hl
              obtain ⟨xs, eH, r⟩ := hr'.at_ _ _ _ (ex.toMv.get ha) eo
              exact ⟨xs, ds, SqL.of eH, r, hl, Option.some.inj hx⟩
            · cases hx
          | _ => cases hx
      have some_of : ∀ {i : Nat} {η : Store} {x : D}, (Src.dyn (objAt k)).at i η = some x → objAt k i η = some (some x) := fun {i η x} hx => by
        dsimp only [Src.at] at hx
        split at hx
        · rename_i e; cases hx; exact e
        · cases hx
      refine ⟨false, _, rfl, ⟨ys, SqL.of e0⟩, fun i w' H' η x ex hr' hx => ?_, fun i w' H' η ex hr' hf => ?_, fun i w' H' η x ex hr' hx => ?_⟩
      · obtain ⟨xs, ds, hs, r, _, e⟩ := get ex hr' (some_of hx)
        obtain ⟨v, hv, rv⟩ := r.get e
        exact ⟨xs, v, hs, hv, rv⟩
      · obtain ⟨xs, ds, hs, r, hl, e⟩ := get ex hr' hf
        exact ⟨xs, hs, by rw [r.length]; exact Nat.le_antisymm (List.getElem?_eq_none_iff.mp e) hl⟩
      · obtain ⟨xs, ds, hs, r, hl, _⟩ := get ex hr' (some_of hx)
        exact ⟨xs, hs, by rw [r.length]; exact hl⟩
    · cases h
  | _ => cases h
def Src.look : Src → Nat → Store → Option (Option D)
  | .val xs, i, _ => if i ≤ xs.length then some xs[i]? else none
  | .dyn f, i, η => f i η
theorem look_at {src : Src} {i : Nat} {x : D} (h : src.look i η = some (some x)) : src.at i η = some x := by
  cases src with
  | val xs => dsimp only [Src.look] at h; split at h; exact Option.some.inj h; cases h
  | dyn f => dsimp only [Src.look] at h; dsimp only [Src.at]; rw [h]
theorem look_fin {src : Src} {i : Nat} (h : src.look i η = some none) : src.fin i η := by
  cases src with
  | val xs => dsimp only [Src.look] at h; split at h; exact Nat.le_antisymm (List.getElem?_eq_none_iff.mp (Option.some.inj h)) (by assumption); cases h
  | dyn f => exact h
def zipF (s1 s2 : Src) (i : Nat) (η : Store) : Option (Option D) := match s1.look i η with
  | none => none
  | some r1 => match s2.look i η with
    | none => none
    | some r2 => some (match r1 with
      | none => none
      | some x => match r2 with
        | none => none
        | some y => some (.tup [x, y]))
def zipS (s1 s2 : Src) : Src := match s1, s2 with
  | .val xs, .val ys => .val (List.zipWith (fun x y => .tup [x, y]) xs ys)
  | s1, s2 => .dyn (zipF s1 s2)
theorem itOk_zip {t1 t2 : Bool} {a b : Addr} {s1 s2 : Src} (h1 : SqOk K w H t1 a s1) (h2 : SqOk K w H t2 b s2) : ItOk K (It2 K t1 t2 a b) (zipS s1 s2) w H := by
  have go : ∀ i w' H' η x y, Ext w H w' H' → HeapRel K w' H' η → s1.at i η = some x → s2.at i η = some y →
      (It2 K t1 t2 a b).go i H' ∧ ∀ v H2, (It2 K t1 t2 a b).yld i H' v H2 → Ext w' H' w' H2 ∧ HeapRel K w' H2 η ∧ RepV K w' H2 v (.tup [x, y]) := fun i w' H' η x y ex hr e1 e2 => by
    obtain ⟨xs, v1, q1, f1, r1⟩ := h1.at_ i w' H' η x ex hr e1
    obtain ⟨ys, v2, q2, f2, r2⟩ := h2.at_ i w' H' η y ex hr e2
    refine ⟨⟨xs, ys, v1, v2, q1, q2, f1, f2⟩, fun v H2 ⟨T, u1, u2, ev, hn, eH, g1, g2⟩ => ?_⟩
    subst ev eH
    have k1 := g1 xs q1
    have k2 := g2 ys q2
    rw [f1] at k1; cases k1
    rw [f2] at k2; cases k2
    exact ⟨Ext.laid hn hr, hr.laid hn, RepV.newT hr (.cons r1 (.cons r2 .nil)) hn⟩
  have stop : ∀ i w' H' η, Ext w H w' H' → HeapRel K w' H' η → (s1.fin i η ∧ ((∃ y, s2.at i η = some y) ∨ s2.fin i η)) ∨ ((∃ x, s1.at i η = some x) ∧ s2.fin i η) → (It2 K t1 t2 a b).stop i H' := fun i w' H' η ex hr q => by
    rcases q with ⟨f1, ⟨y, e2⟩ | f2⟩ | ⟨⟨x, e1⟩, f2⟩
    · obtain ⟨xs, q1, l1⟩ := h1.fin i w' H' η ex hr f1
      obtain ⟨ys, q2, l2⟩ := h2.le i w' H' η y ex hr e2
      exact ⟨xs, ys, q1, q2, Nat.le_of_eq l1.symm, l2, .inl l1.symm⟩
    · obtain ⟨xs, q1, l1⟩ := h1.fin i w' H' η ex hr f1
      obtain ⟨ys, q2, l2⟩ := h2.fin i w' H' η ex hr f2
      exact ⟨xs, ys, q1, q2, Nat.le_of_eq l1.symm, Nat.le_of_eq l2.symm, .inl l1.symm⟩
    · obtain ⟨xs, q1, l1⟩ := h1.le i w' H' η x ex hr e1
      obtain ⟨ys, q2, l2⟩ := h2.fin i w' H' η ex hr f2
      exact ⟨xs, ys, q1, q2, l1, Nat.le_of_eq l2.symm, .inr l2.symm⟩
  have dyn : ItOk K (It2 K t1 t2 a b) (.dyn (zipF s1 s2)) w H := by
    have res : ∀ i η r, zipF s1 s2 i η = some r → ∃ r1 r2, s1.look i η = some r1 ∧ s2.look i η = some r2 ∧ r = (match r1 with
      | none => none
      | some x => match r2 with
        | none => none
        | some y => some (.tup [x, y])) := fun i η r h => by
      unfold zipF at h
      cases e1 : s1.look i η with
      | none => rw [e1] at h; cases h
      | some r1 =>
        rw [e1] at h
        cases e2 : s2.look i η with
        | none => rw [e2] at h; cases h
        | some r2 => rw [e2] at h; exact ⟨r1, r2, rfl, rfl, (Option.some.inj h).symm⟩
    refine ⟨fun i w' H' η x ex hr hx => ?_, fun i w' H' η ex hr hf => ?_⟩
    · dsimp only [Src.at] at hx
      cases ez : zipF s1 s2 i η with
      | none => rw [ez] at hx; cases hx
      | some r =>
        rw [ez] at hx
        obtain ⟨r1, r2, l1, l2, er⟩ := res i η r ez
        cases r1 with
        | none => subst er; cases hx
        | some x1 =>
          cases r2 with
          | none => subst er; cases hx
          | some x2 => subst er; cases hx; exact go i w' H' η _ _ ex hr (look_at l1) (look_at l2)
    · obtain ⟨r1, r2, l1, l2, er⟩ := res i η none hf
      cases r1 with
      | none =>
        refine stop i w' H' η ex hr (.inl ⟨look_fin l1, ?_⟩)
        cases r2 with
        | none => exact .inr (look_fin l2)
        | some y => exact .inl ⟨y, look_at l2⟩
      | some x1 =>
        cases r2 with
        | none => exact stop i w' H' η ex hr (.inr ⟨⟨x1, look_at l1⟩, look_fin l2⟩)
        | some x2 => cases er
  cases s1 with
  | dyn f => exact dyn
  | val xs =>
    cases s2 with
    | dyn f => exact dyn
    | val ys =>
      refine ⟨fun i w' H' η x ex hr hx => ?_, fun i w' H' η ex hr hf => ?_⟩
      · have hx' : (List.zipWith (fun x y => D.tup [x, y]) xs ys)[i]? = some x := hx
        rw [List.getElem?_zipWith] at hx'
        split at hx'
        · rename_i e1 e2
          cases hx'
          exact go i w' H' η _ _ ex hr e1 e2
        · cases hx'
      · have hf' : (List.zipWith (fun x y => D.tup [x, y]) xs ys).length = i := hf
        rw [List.length_zipWith] at hf'
        by_cases hl : xs.length ≤ ys.length
        · have e1 : xs.length = i := by omega
          refine stop i w' H' η ex hr (.inl ⟨e1, ?_⟩)
          by_cases hy : ys.length = i
          · exact .inr hy
          · exact .inl ⟨_, List.getElem?_eq_getElem (by omega)⟩
        · exact stop i w' H' η ex hr (.inr ⟨⟨_, List.getElem?_eq_getElem (show i < xs.length by omega)⟩, (show ys.length = i by omega)⟩)
theorem lt_one {a n : Addr} (h : a < n) : ∀ c ∈ [a], c < n := fun c hc => by
  have e : c = a := by simpa using hc
  rw [e]
  exact h
def iZip (fA : FA) : FI := fun ρ η => (fA ρ η).bind fun ds η => match ds with
  | [x, y] => (match sqOf x η, sqOf y η with
    | some s1, some s2 => .ok (zipS s1 s2) η
    | _, _ => .no)
  | _ => .no
/-- for a, b in zip(x, y) -/
theorem di_zip {elts : List Expr} {kk : Nat} (hm : X.mg "zip" = none) (ha : DA X W [e, e2] fA) (hg : Gl X "zip" := by rfl)
    (hs : starEach [e, e2] X.env = (false, eval e X.env) :: starEach [e2] X.env := by rfl) (hpl : (backTo pos (starEach [e2] X.env)).any (·.1) = false := by rfl) :
    DI X W (.Tuple elts kk tpos) (.Call (.Name "zip" p) [e, e2] [] pos) (iZip fA) := by
  refine ⟨fun pins s σ H R I ⟨w, ρ, η, rel, hp⟩ => ?_⟩
  refine Call_ (ld_blt I hg hm PyProof.Rows.boot_zip (PyProof.Rows.callWith_type1 (thn (ha.run pos pins s σ H _ I (rdA_then rel hp)) fun us s1 ⟨vs, H1, I1, r1, w1, ds, η1, ex, rel1, rv, p1⟩ => ?_) hs hpl))
  split at p1
  case h_2 => exact p1.elim
  rename_i x y
  split at p1
  case h_2 => exact p1.elim
  rename_i s1' s2' q1 q2
  cases rv with | cons rv1 rr => ?_
  cases rr with | cons rv2 rr => ?_
  cases rr
  obtain ⟨t1, a, ea, k1⟩ := sqOk rel1.heap rv1 q1
  obtain ⟨t2, b, eb, k2⟩ := sqOk rel1.heap rv2 q2
  subst ea eb
  cases r1 with | cons r1 rr => ?_
  cases rr with | cons r2 rr => ?_
  cases rr; cases r1; cases r2
  obtain ⟨xs, hx⟩ := k1.now
  obtain ⟨ys, hy⟩ := k2.now
  obtain ⟨its, _, pa, _⟩ := inv_seq I1 hx
  obtain ⟨its2, _, pb, _⟩ := inv_seq I1 hy
  have la := seq_lt I1 hx
  have lb := seq_lt I1 hy
  refine zip_begins2 (begins_s t1 a its.toArray) (begins_s t2 b its2.toArray) pa pb fun h' hz hTI hTO g1 g2 hsz hk => wpAny_pyIter_zip hz ?_
  have I2 : Inv X pins σ H1 { s1 with heap := h' } := I1.kept (t' := s1.toks) hk
  have D : ZipSep2 (s1.heap.objs.size + 4) (s1.heap.objs.size + 2) (s1.heap.objs.size + 3) s1.heap.objs.size (s1.heap.objs.size + 1) [s1.heap.objs.size, a] [s1.heap.objs.size + 1, b] :=
    zip_sep2 (N := s1.heap.objs.size) (fp1 := [a]) (fp2 := [b]) (lt_one la) (lt_one lb)
  refine ⟨s1.heap.objs.size + 4, [s1.heap.objs.size + 4, s1.heap.objs.size + 2, s1.heap.objs.size + 3, s1.heap.objs.size, s1.heap.objs.size + 1], _, It2 X.K t1 t2 a b, H1, rfl, I2, turn_zip2 D, ⟨hz, hTI, ⟨_, _, hTO⟩, .new g1, .new g2⟩, fun c hc => ?_, ?_⟩
  · have e' : c = s1.heap.objs.size + 4 ∨ c = s1.heap.objs.size + 2 ∨ c = s1.heap.objs.size + 3 ∨ c = s1.heap.objs.size ∨ c = s1.heap.objs.size + 1 := by simpa using hc
    have hle : s1.heap.objs.size ≤ c := by
      rcases e' with z | z | z | z | z
      · rw [z]; exact Nat.le_add_right _ _
      · rw [z]; exact Nat.le_add_right _ _
      · rw [z]; exact Nat.le_add_right _ _
      · rw [z]; exact Nat.le_refl _
      · rw [z]; exact Nat.le_add_right _ _
    exact I1.fpOk hle (I1.hok.fresh hle)
  · exact p1 _ w1 H1 .refl rel1.heap (itOk_zip k1 k2)
/-! ### enumerate -/
def enumS (s : Src) : Src := match s with
  | .val xs => .val (xs.zipIdx.map fun q => .tup [.int (q.2 : Nat), q.1])
  | .dyn f => .dyn fun i η => match f i η with
    | some (some x) => some (some (.tup [.int (i : Nat), x]))
    | some none => some none
    | none => none
theorem itOk_enum {t : Bool} {a : Addr} {s1 : Src} (h1 : SqOk K w H t a s1) : ItOk K (ItE K t a) (enumS s1) w H := by
  have go : ∀ i w' H' η x, Ext w H w' H' → HeapRel K w' H' η → s1.at i η = some x →
      (ItE K t a).go i H' ∧ ∀ v H2, (ItE K t a).yld i H' v H2 → Ext w' H' w' H2 ∧ HeapRel K w' H2 η ∧ RepV K w' H2 v (.tup [.int (i : Nat), x]) := fun i w' H' η x ex hr e1 => by
    obtain ⟨xs, v1, q1, f1, r1⟩ := h1.at_ i w' H' η x ex hr e1
    refine ⟨⟨xs, v1, q1, f1⟩, fun v H2 ⟨T, u1, ev, hn, eH, g1⟩ => ?_⟩
    subst ev eH
    have k1 := g1 xs q1
    rw [f1] at k1; cases k1
    exact ⟨Ext.laid hn hr, hr.laid hn, RepV.newT hr (.cons (.int _) (.cons r1 .nil)) hn⟩
  have stop : ∀ i w' H' η, Ext w H w' H' → HeapRel K w' H' η → s1.fin i η → (ItE K t a).stop i H' := fun i w' H' η ex hr f1 => by
    obtain ⟨xs, q1, l1⟩ := h1.fin i w' H' η ex hr f1
    exact ⟨xs, q1, l1.symm⟩
  cases s1 with
  | val xs =>
    refine ⟨fun i w' H' η x ex hr hx => ?_, fun i w' H' η ex hr hf => stop i w' H' η ex hr ?_⟩
    · have hx' : (xs.zipIdx.map fun q => D.tup [.int (q.2 : Nat), q.1])[i]? = some x := hx
      rw [List.getElem?_map, List.getElem?_zipIdx] at hx'
      cases e : xs[i]? with
      | none => rw [e] at hx'; cases hx'
      | some y =>
        rw [e] at hx'
        simp at hx'
        subst hx'
        exact go i w' H' η y ex hr e
    · have hf' : (xs.zipIdx.map fun q => D.tup [.int (q.2 : Nat), q.1]).length = i := hf
      show xs.length = i
      simpa using hf'
  | dyn f =>
    refine ⟨fun i w' H' η x ex hr hx => ?_, fun i w' H' η ex hr hf => stop i w' H' η ex hr ?_⟩
    · dsimp only [enumS, Src.at] at hx
      split at hx
      · rename_i z ez
        cases hx
        split at ez
        · rename_i e
          cases ez
          exact go i w' H' η _ ex hr (by dsimp only [Src.at]; rw [e])
        · cases ez
        · cases ez
      · cases hx
    · dsimp only [enumS, Src.fin] at hf
      split at hf
      · cases hf
      · rename_i e; exact e
      · cases hf
def iEnumS (fA : FA) : FI := fun ρ η => (fA ρ η).bind fun ds η => match ds with
  | [x] => (match sqOf x η with
    | some s1 => .ok (enumS s1) η
    | _ => .no)
  | _ => .no
theorem di_enum {elts : List Expr} {kk : Nat} (hm : X.mg "enumerate" = none) (ha : DA X W [e] fA) (hg : Gl X "enumerate" := by rfl)
    (hs : starEach [e] X.env = [(false, eval e X.env)] := by rfl) :
    DI X W (.Tuple elts kk tpos) (.Call (.Name "enumerate" p) [e] [] pos) (iEnumS fA) := by
  refine ⟨fun pins s σ H R I ⟨w, ρ, η, rel, hp⟩ => ?_⟩
  refine Call_ (ld_blt I hg hm boot_enumerate (PyProof.Rows.callWith_type1 (thn (ha.run pos pins s σ H _ I (rdA_then rel hp)) fun us s1 ⟨vs, H1, I1, r1, w1, ds, η1, ex, rel1, rv, p1⟩ => ?_) hs rfl))
  split at p1
  case h_2 => exact p1.elim
  rename_i x
  split at p1
  case h_2 => exact p1.elim
  rename_i s1' q1
  cases rv with | cons rv1 rr => ?_
  cases rr
  obtain ⟨t1, a, ea, k1⟩ := sqOk rel1.heap rv1 q1
  subst ea
  cases r1 with | cons r1 rr => ?_
  cases rr; cases r1
  obtain ⟨xs, hx⟩ := k1.now
  obtain ⟨its, _, pa, _⟩ := inv_seq I1 hx
  have la := seq_lt I1 hx
  refine enum_begins0 (begins_s t1 a its.toArray) pa fun h' he g1 hsz hk => wpAny_pyIter_enum he ?_
  have I2 : Inv X pins σ H1 { s1 with heap := h' } := I1.kept (t' := s1.toks) hk
  refine ⟨s1.heap.objs.size + 1, [s1.heap.objs.size + 1, s1.heap.objs.size], _, ItE X.K t1 a, H1, rfl, I2, turn_enumS (it := s1.heap.objs.size) (Nat.succ_ne_self _) (Nat.ne_of_gt (Nat.lt_succ_of_lt la)), ⟨⟨.none, by simpa using he⟩, .new g1⟩, fun c hc => ?_, ?_⟩
  · have e' : c = s1.heap.objs.size + 1 ∨ c = s1.heap.objs.size := by simpa using hc
    have hle : s1.heap.objs.size ≤ c := by
      rcases e' with z | z
      · rw [z]; exact Nat.le_add_right _ _
      · rw [z]; exact Nat.le_refl _
    exact I1.fpOk hle (I1.hok.fresh hle)
  · exact p1 _ w1 H1 .refl rel1.heap (itOk_enum k1)
/-! ### range -/
def rng (lo : Int) (n : Nat) : List D := (List.range n).map fun i => .int (lo + (i : Nat))
theorem itOk_rng {lo : Int} {n : Nat} : ItOk K (Itr lo n) (.val (rng lo n)) w H := by
  refine ⟨fun i w' H' η x ex hr hx => ?_, fun i w' H' η ex hr hf => ?_⟩
  · have hx' : ((List.range n).map fun i => D.int (lo + (i : Nat)))[i]? = some x := hx
    rw [List.getElem?_map] at hx'
    by_cases hi : i < n
    · rw [List.getElem?_range hi] at hx'
      cases hx'
      refine ⟨hi, fun v H2 ⟨e1, e2⟩ => ?_⟩
      subst e1 e2
      exact ⟨.refl, hr, .int _⟩
    · rw [List.getElem?_eq_none (by simpa using hi)] at hx'; cases hx'
  · have hf' : (rng lo n).length = i := hf
    show n ≤ i
    rw [← hf']; simp [rng]
def big62 (i : Int) : Prop := -(2 ^ 62) ≤ i ∧ i < 2 ^ 62
instance (i : Int) : Decidable (big62 i) := by unfold big62; infer_instance
def iRng1 (fA : FA) : FI := fun ρ η => (fA ρ η).bind fun ds η => match ds with
  | [.int j] => if big62 j then .ok (.val (rng 0 j.toNat)) η else .no
  | _ => .no
def iRng2 (fA : FA) : FI := fun ρ η => (fA ρ η).bind fun ds η => match ds with
  | [.int i, .int j] => if big62 i ∧ big62 j then .ok (.val (rng i (j - i).toNat)) η else .no
  | _ => .no
theorem di_range1 {tg : Expr} (hm : X.mg "range" = none) (ha : DA X W [e] fA) (hg : Gl X "range" := by rfl) (hs : starEach [e] X.env = [(false, eval e X.env)] := by rfl) : DI X W tg (.Call (.Name "range" p) [e] [] pos) (iRng1 fA) :=
  PI.imp (pi_range1 hg hm ha hs) fun σ H R ⟨w, ρ, η, rel, p⟩ => by
    obtain ⟨w, ρ, η, rel, q⟩ := rdA_then rel p
    refine ⟨w, ρ, η, rel, q.imp fun vs H1 ⟨w1, ds, η1, e, rel1, rv, p1⟩ => ?_⟩
    split at p1
    · split at p1
      · rename_i hb
        cases rv with | cons r1 rr => ?_
        cases rr; cases r1
        exact ⟨_, rfl, hb.1, hb.2, p1 _ w1 H1 .refl rel1.heap itOk_rng⟩
      · exact p1.elim
    · exact p1.elim
theorem di_range2 {tg : Expr} (hm : X.mg "range" = none) (ha : DA X W [e, e2] fA) (hg : Gl X "range" := by rfl) (hs : starEach [e, e2] X.env = [(false, eval e X.env), (false, eval e2 X.env)] := by rfl) (hs2 : starEach [e2] X.env = [(false, eval e2 X.env)] := by rfl) :
    DI X W tg (.Call (.Name "range" p) [e, e2] [] pos) (iRng2 fA) :=
  PI.imp (pi_range2 hg hm ha hs hs2) fun σ H R ⟨w, ρ, η, rel, p⟩ => by
    obtain ⟨w, ρ, η, rel, q⟩ := rdA_then rel p
    refine ⟨w, ρ, η, rel, q.imp fun vs H1 ⟨w1, ds, η1, e, rel1, rv, p1⟩ => ?_⟩
    split at p1
    · split at p1
      · rename_i hb
        cases rv with | cons r1 rr => ?_
        cases rr with | cons r2 rr => ?_
        cases rr; cases r1; cases r2
        exact ⟨_, _, rfl, ⟨hb.1.1, hb.1.2, hb.2.1, hb.2.2⟩, p1 _ w1 H1 .refl rel1.heap itOk_rng⟩
      · exact p1.elim
    · exact p1.elim
end
end Dn
/-! Dn part 9: isinstance, sums, greatest and least, dicts of pairs, sorted. -/
namespace Dn
open PySem PySem.Spec PyProof.Rows L2
section
variable {X : Cx} {W : WX} {K : PySem.W.Frag} {w w1 w' : Wd} {H H1 H' : Hp} {η : Store}
/-! ### isinstance of built-in types -/
inductive Ty where
  | non | bool | int | str | tuple | list | dict
  deriving DecidableEq
def Ty.nm : Ty → String
  | .non => "NoneType" | .bool => "bool" | .int => "int" | .str => "str" | .tuple => "tuple" | .list => "list" | .dict => "dict"
def tyOf : D → Store → Option Ty
  | .non, _ => some .non
  | .bl _, _ => some .bool
  | .int _, _ => some .int
  | .str _, _ => some .str
  | .tup _, _ => some .tuple
  | .lst _, _ => some .list
  | .scr _, _ => some .list
  | .obj i, η => match η[i]? with
    | some (.lst _) => some .list
    | some (.dK _) => some .dict
    | some (.dT _) => some .dict
    | _ => none
  | _, _ => none
theorem tyOf_ok {v : V} {d : D} {t : Ty} (hr : HeapRel K w H η) (rv : RepV K w H v d) (h : tyOf d η = some t) : TyX K H v (.type t.nm) := by
  cases d with
  | non => cases rv; cases h; exact .base .non
  | bl b => cases rv; cases h; exact .base (.bl b)
  | int i => cases rv; cases h; exact .base (.int i)
  | str x => cases rv; cases h; exact .base (.str x)
  | tup xs =>
    cases rv with | tup hs r => ?_
    cases h
    rcases hs with ⟨hs | ⟨o, hs⟩, _⟩ | ⟨o, its, n, hk, hc, _⟩
    · exact .base (.tup hs)
    · exact .fTuple hs
    · exact .kTuple hk hc
  | lst xs =>
    cases rv with | lst hs r => ?_
    cases h
    exact .base (.lst hs.1)
  | scr xs =>
    cases rv with | scr hs r => ?_
    cases h
    rcases hs with ⟨⟨o, hs⟩, _⟩ | ⟨o, its, n, hk, hc, _⟩
    · exact .base (.frz hs)
    · exact .kList hk hc
  | obj i =>
    cases rv with | obj ha => ?_
    dsimp only [tyOf] at h
    cases eo : η[i]? with
    | none => rw [eo] at h; cases h
    | some ob =>
      rw [eo] at h
      cases ob with
      | lst xs => cases h; obtain ⟨ys, e, _⟩ := hr.at_ _ _ _ ha eo; exact .base (.lst e)
      | dK xs => cases h; obtain ⟨ys, e, _⟩ := hr.at_ _ _ _ ha eo; exact .base (.dK e)
      | dT xs => cases h; obtain ⟨ys, e, _⟩ := hr.at_ _ _ _ ha eo; exact .base (.dT e)
      | ins c fs => cases h
  | gl x => cases h
  | ty n => cases h
def tyB : Ty → Ty → Bool
  | .bool, .int => true
  | a, b => decide (a = b)
theorem tyB_ok (a b : Ty) (hb : b ≠ .non) : PySem.W.kitOne K (.type a.nm) (.type b.nm) = some (tyB a b) := by
  cases b with
  | non => exact absurd rfl hb
  | bool => cases a <;> exact kit_ty (by decide +kernel)
  | int => cases a <;> exact kit_ty (by decide +kernel)
  | str => cases a <;> exact kit_ty (by decide +kernel)
  | tuple => cases a <;> exact kit_ty (by decide +kernel)
  | list => cases a <;> exact kit_ty (by decide +kernel)
  | dict => cases a <;> exact kit_ty (by decide +kernel)
def tyNm : String → Option Ty
  | "bool" => some .bool | "int" => some .int | "str" => some .str | "tuple" => some .tuple | "list" => some .list | "dict" => some .dict | _ => none
theorem tyNm_ok {n : String} {t : Ty} (h : tyNm n = some t) : t.nm = n ∧ t ≠ .non := by
  unfold tyNm at h
  split at h <;> first | (cases h; exact ⟨rfl, by decide⟩) | cases h
def isiD : GL := fun ds η => match ds with
  | [d, .ty n] => (match tyOf d η with
    | some a => (match tyNm n with
      | some b => some (.bl (tyB a b), η)
      | none => none)
    | none => none)
  | _ => none
theorem callD_isi : CallR X (.builtin "isinstance") (rdL X.K isiD) := call_of call_isi fun hr r h p => by
  unfold isiD at h
  split at h
  · rename_i d n
    split at h
    · rename_i a ea
      split at h
      · rename_i b eb
        cases h
        cases r with | cons r1 rr => ?_
        cases rr with | cons r2 rr => ?_
        cases rr; cases r2
        obtain ⟨e, ne⟩ := tyNm_ok eb
        refine ⟨_, _, _, _, _, rfl, .ty n, tyOf_ok hr r1 ea, ?_, val_of p hr (.bl _)⟩
        rw [← e]
        exact tyB_ok a b ne
      · cases h
    · cases h
  · cases h
/-! ### sum, max, min -/
theorem iter_tupW {prog : Program} {wl : World} {A : Around} {E : Value → Shared → Prop} {s : Shared} {l : Addr} {its : Array Value} {Q : Value → Shared → Prop} (hl : s.heap.IsTuple l its)
    (h : ∀ s₂ : Shared, s₂ = { s with heap := s.heap.push { cls := .type "tuple_iterator", data := .fields #[.ref l, .int 0 0] } } →
      (s₂.heap.IsTupleIter s.heap.objs.size l 0 ∧ s₂.heap.IsTuple l its) → (∀ b ∈ [s.heap.objs.size, l], b < s₂.heap.objs.size) → l ≠ s.heap.objs.size → Q (.ref s.heap.objs.size) s₂) :
    wpAny (model prog wl) A (pyIter (.ref l)) Q E s := by
  have hlt : l < s.heap.objs.size := by obtain ⟨_, e, _⟩ := hl; exact Heap.lt_size e
  refine wpAny_pyIter_tuple hl (h _ rfl ⟨⟨_, Heap.get?_push_size _ rfl, rfl, rfl⟩, hl.push _⟩ (fun b hb => ?_) (Nat.ne_of_lt hlt))
  show b < (s.heap.push _).objs.size
  rw [Heap.size_push]
  have e : b = s.heap.objs.size ∨ b = l := by simpa using hb
  rcases e with e | e
  · rw [e]; exact Nat.lt_succ_self _
  · rw [e]; exact Nat.lt_succ_of_lt hlt
theorem keptW {s : Shared} {o : Obj} {h' : Heap} (hk : ∀ b ob, b ∉ [s.heap.objs.size] → (s.heap.push o).get? b = some ob → h'.get? b = some ob) : ∀ b ob, s.heap.get? b = some ob → h'.get? b = some ob := fun b ob e =>
  hk b ob (by simpa using Nat.ne_of_lt (Heap.lt_size e)) (Heap.get?_push_of_some _ e)
def rSumT (K : PySem.W.Frag) : List V → Hp → VK → Prop := fun vs H Q => ∃ (a : Addr) (ns : List Int), vs = [V.ref a] ∧ SqT K H a (ns.map V.int) ∧ Q (.int ns.sum) H
theorem cr_sumT (hc : X.calm = true) : CallR X (.builtin "sum") (rSumT X.K) := by
  intro pins s σ H vs us Q I r h
  obtain ⟨a, ns, rfl, hs, q⟩ := h
  obtain ⟨its, rv, hl, _⟩ := I.tuple hs
  rw [Vals.ref1 r]
  refine call_sum_walkG (iter_tupW hl fun s₂ e st hfp hlI => ?_)
  subst e
  refine ⟨_, _, _, _, _, _, fun i => ns.getD i 0, rfl, Walks.tuple (A := X.A.in1) (I.ok.hd hc) _ a hlI its.toArray, st, hfp, fun i v hv => ?_, fun h' tk t' hk => ?_⟩
  · have hv' : its[i]? = some v := by simpa using hv
    have hi : i < ns.length := by
      have := (List.getElem?_eq_some_iff.mp hv').1
      have l := rv.length
      simp at l; omega
    obtain ⟨u, hu, ru⟩ := rv.get (i := i) (x := .int (ns[i])) (by rw [List.getElem?_map, List.getElem?_eq_getElem hi]; rfl)
    rw [hv'] at hu; cases hu
    obtain ⟨t, rfl⟩ := ru
    exact ⟨t, by simp [List.getD, List.getElem?_eq_getElem hi]⟩
  · refine ⟨.int ns.sum, H, I.kept (keptW hk), ⟨t', ?_⟩, q⟩
    have l := rv.length
    simp at l
    rw [preSum_getD, List.take_of_length_le (by simp; omega)]
def seqA : D → Store → Option (List D)
  | .tup xs, _ => some xs
  | d, η => seqL d η
def sumD : GL := fun ds η => match ds with
  | [.tup xs] => (intsOf xs).map fun ns => (.int ns.sum, η)
  | [d] => match seqL d η with
    | some xs => (intsOf xs).map fun ns => (.int ns.sum, η)
    | none => none
  | _ => none
theorem callD_sum (hc : X.calm = true) : CallR X (.builtin "sum") (rdL X.K sumD) := call_of (CallR.or (cr_sum hc) (cr_sumT hc)) fun hr r h p => by
  unfold sumD at h
  split at h
  · rename_i xs
    cases r with | cons r1 rr => ?_
    cases rr
    cases r1 with | tup hs q => ?_
    cases eb : intsOf xs with
    | none => rw [eb] at h; cases h
    | some ns => rw [eb] at h; cases h; exact .inr ⟨_, ns, rfl, by rw [← ints_ok q eb]; exact hs.sq, val_of p hr (.int _)⟩
  · split at h
    · rename_i e
      cases r with | cons r1 rr => ?_
      cases rr
      obtain ⟨a, ys, rfl, s, q⟩ := seqL_ok hr r1 e
      cases eb : intsOf ‹List D› with
      | none => rw [eb] at h; cases h
      | some ns => rw [eb] at h; cases h; exact .inl ⟨_, ns, rfl, by rw [← ints_ok q eb]; exact s, val_of p hr (.int _)⟩
    · cases h
  · cases h
/-! ### sorted of ints -/
def insI (x : Int) : List Int → List Int
  | [] => [x]
  | y :: r => if x ≤ y then x :: y :: r else y :: insI x r
def sortI : List Int → List Int
  | [] => []
  | x :: r => insI x (sortI r)
theorem insI_perm (x : Int) : ∀ l : List Int, (insI x l).Perm (x :: l)
  | [] => .refl _
  | y :: r => by
    unfold insI
    split
    · exact .refl _
    · exact ((insI_perm x r).cons y).trans (.swap x y r)
theorem sortI_perm : ∀ l : List Int, (sortI l).Perm l
  | [] => .refl _
  | x :: r => (insI_perm x _).trans ((sortI_perm r).cons x)
theorem insI_sorted (x : Int) : ∀ l : List Int, l.Pairwise (· ≤ ·) → (insI x l).Pairwise (· ≤ ·)
  | [], _ => by simp [insI]
  | y :: r, h => by
    unfold insI
    have h' := List.pairwise_cons.mp h
    split
    · rename_i hx
      refine List.pairwise_cons.mpr ⟨fun z hz => ?_, h⟩
      rcases List.mem_cons.mp hz with e | hz
      · subst e; exact hx
      · exact Int.le_trans hx (h'.1 z hz)
    · rename_i hx
      refine List.pairwise_cons.mpr ⟨fun z hz => ?_, insI_sorted x r h'.2⟩
      rcases List.mem_cons.mp ((insI_perm x r).mem_iff.mp hz) with e | hz
      · subst e; omega
      · exact h'.1 z hz
theorem sortI_sorted : ∀ l : List Int, (sortI l).Pairwise (· ≤ ·)
  | [] => .nil
  | x :: r => insI_sorted x _ (sortI_sorted r)
theorem sorted_eq : ∀ {l m : List Int}, l.Perm m → l.Pairwise (· ≤ ·) → m.Pairwise (· ≤ ·) → l = m
  | [], m, h, _, _ => by rw [h.nil_eq]
  | x :: l, [], h, _, _ => by have := h.length_eq; simp at this
  | x :: l, y :: m, h, hl, hm => by
    have hl' := List.pairwise_cons.mp hl
    have hm' := List.pairwise_cons.mp hm
    have e : x = y := by
      have h1 : y ∈ x :: l := h.mem_iff.mpr List.mem_cons_self
      have h2 : x ∈ y :: m := h.mem_iff.mp List.mem_cons_self
      rcases List.mem_cons.mp h1 with e | h1
      · exact e.symm
      · rcases List.mem_cons.mp h2 with e | h2
        · exact e
        · have := hl'.1 y h1; have := hm'.1 x h2; omega
    subst e
    rw [sorted_eq (List.Perm.cons_inv h) hl'.2 hm'.2]
theorem sortI_of {ns ys : List Int} (h : ys.Perm ns) (hs : ys.Pairwise (· ≤ ·)) : ys = sortI ns := sorted_eq (h.trans (sortI_perm ns).symm) hs (sortI_sorted ns)
/-! ### dicts -/
def keyD : D → Option Key
  | .int i => some (.inl i)
  | .str x => some (.inr x)
  | _ => none
def dK : Key → D
  | .inl i => .int i
  | .inr x => .str x
theorem keyD_ok {v : V} {d : D} {k : Key} (r : RepV K w H v d) (h : keyD d = some k) : v = kV k ∧ d = dK k := by
  cases d with
  | int i => cases r; cases h; exact ⟨rfl, rfl⟩
  | str x => cases r; cases h; exact ⟨rfl, rfl⟩
  | _ => cases h
theorem rep_key (k : Key) : RepV K w H (kV k) (dK k) := by
  cases k with
  | inl i => exact .int i
  | inr x => exact .str x
section
variable {κ : Type} [DecidableEq κ]
def putD (kvs : List (κ × D)) (k : κ) (v : D) : List (κ × D) :=
  if (kvs.any fun kv => decide (kv.1 = k)) = true then kvs.map (fun kv => if kv.1 = k then (kv.1, v) else kv) else kvs ++ [(k, v)]
def getD (kvs : List (κ × D)) (k : κ) : Option D := (kvs.find? fun kv => decide (kv.1 = k)).map (·.2)
def dropD (kvs : List (κ × D)) (k : κ) : List (κ × D) := kvs.filter fun kv => decide (kv.1 ≠ k)
theorem repF_nil : RepF (κ := κ) K w H [] [] := ⟨rfl, .nil⟩
theorem repF_cons {p : κ × V} {q : κ × D} {xs : List (κ × V)} {fs : List (κ × D)} : RepF K w H (p :: xs) (q :: fs) ↔ p.1 = q.1 ∧ RepV K w H p.2 q.2 ∧ RepF K w H xs fs := by
  constructor
  · rintro ⟨e, r⟩
    cases r with | cons r1 r2 => ?_
    have e' := List.cons_eq_cons.mp (show p.1 :: xs.map (·.1) = q.1 :: fs.map (·.1) from e)
    exact ⟨e'.1, r1, e'.2, r2⟩
  · rintro ⟨e, r, f⟩
    exact ⟨by rw [List.map_cons, List.map_cons, e, f.1], .cons r f.2⟩
theorem repF_length {xs : List (κ × V)} {fs : List (κ × D)} (h : RepF K w H xs fs) : xs.length = fs.length := by simpa using congrArg List.length h.1
theorem repF_append : ∀ {xs ys : List (κ × V)} {fs gs : List (κ × D)}, RepF K w H xs fs → RepF K w H ys gs → RepF K w H (xs ++ ys) (fs ++ gs) := fun h h' =>
  ⟨by rw [List.map_append, List.map_append, h.1, h'.1], by rw [List.map_append, List.map_append]; exact h.2.append h'.2⟩
theorem repF_any {xs : List (κ × V)} {fs : List (κ × D)} (k : κ) (h : RepF K w H xs fs) : (xs.any fun kv => decide (kv.1 = k)) = fs.any fun kv => decide (kv.1 = k) := by
  have e1 : (xs.any fun kv => decide (kv.1 = k)) = (xs.map (·.1)).any fun x => decide (x = k) := by rw [List.any_map]; rfl
  have e2 : (fs.any fun kv => decide (kv.1 = k)) = (fs.map (·.1)).any fun x => decide (x = k) := by rw [List.any_map]; rfl
  rw [e1, e2, h.1]
theorem repF_repl {k : κ} {v : V} {d : D} (r : RepV K w H v d) : ∀ {xs : List (κ × V)} {fs : List (κ × D)}, RepF K w H xs fs → RepF K w H (xs.map fun kv => if kv.1 = k then (kv.1, v) else kv) (fs.map fun kv => if kv.1 = k then (kv.1, d) else kv)
  | [], [], _ => repF_nil
  | [], _ :: _, h => by have := repF_length h; simp at this
  | _ :: _, [], h => by have := repF_length h; simp at this
  | p :: xs, q :: fs, h => by
    obtain ⟨e, r1, h1⟩ := repF_cons.mp h
    rw [List.map_cons, List.map_cons]
    refine repF_cons.mpr ⟨?_, ?_, repF_repl r h1⟩
    · rw [e]; split <;> first | rfl | exact e
    · rw [e]; split
      · exact r
      · exact r1
theorem repF_put {xs : List (κ × V)} {fs : List (κ × D)} {k : κ} {v : V} {d : D} (h : RepF K w H xs fs) (r : RepV K w H v d) : RepF K w H (putK xs k v) (putD fs k d) := by
  unfold putK putD
  rw [repF_any k h]
  split
  · exact repF_repl r h
  · exact repF_append h (repF_cons.mpr ⟨rfl, r, repF_nil⟩)
theorem repF_get {k : κ} : ∀ {xs : List (κ × V)} {fs : List (κ × D)}, RepF K w H xs fs → (∀ d, getD fs k = some d → ∃ v, valV xs k = some v ∧ RepV K w H v d) ∧ (getD fs k = none → valV xs k = none)
  | [], [], _ => ⟨fun d h => (by cases h), fun _ => rfl⟩
  | [], _ :: _, h => by have := repF_length h; simp at this
  | _ :: _, [], h => by have := repF_length h; simp at this
  | p :: xs, q :: fs, h => by
    obtain ⟨e, r1, h1⟩ := repF_cons.mp h
    have ih := repF_get (k := k) h1
    by_cases hk : q.1 = k
    · have e1 : getD (q :: fs) k = some q.2 := by simp [getD, hk]
      have e2 : valV (p :: xs) k = some p.2 := valV_pos (e.trans hk)
      rw [e1, e2]
      exact ⟨fun d h => by cases h; exact ⟨_, rfl, r1⟩, fun h => by cases h⟩
    · have e1 : getD (q :: fs) k = getD fs k := by simp [getD, hk]
      have e2 : valV (p :: xs) k = valV xs k := valV_neg (fun z => hk (e.symm.trans z))
      rw [e1, e2]
      exact ih
theorem length_putD (kvs : List (κ × D)) (k : κ) (v : D) : (putD kvs k v).length ≤ kvs.length + 1 := by
  unfold putD
  split
  · simp
  · simp
end
def mergeD (kvs more : List (Key × D)) : List (Key × D) := more.foldl (fun acc kv => putD acc kv.1 kv.2) kvs
theorem repF_merge : ∀ {more : List (Key × V)} {ms : List (Key × D)} {xs : List (Key × V)} {fs : List (Key × D)}, RepF K w H more ms → RepF K w H xs fs → RepF K w H (mergeK xs more) (mergeD fs ms)
  | [], [], _, _, _, h => h
  | [], _ :: _, _, _, h, _ => by have := repF_length h; simp at this
  | _ :: _, [], _, _, h, _ => by have := repF_length h; simp at this
  | p :: more, q :: ms, xs, fs, h, g => by
    obtain ⟨e, r1, h1⟩ := repF_cons.mp h
    show RepF K w H (mergeK (putK xs p.1 p.2) more) (mergeD (putD fs q.1 q.2) ms)
    rw [e]
    exact repF_merge h1 (repF_put g r1)
/-- pairs (key, value) -/
theorem tup_inv {v : V} {ds : List D} (r : RepV K w H v (.tup ds)) : ∃ (a : Addr) (ys : List V), v = .ref a ∧ StT K w H a ys ∧ RepVs K w H ys ds := by
  cases r with | tup hs q => exact ⟨_, _, rfl, hs, q⟩
theorem reps_cons {vs : List V} {d : D} {ds : List D} (r : RepVs K w H vs (d :: ds)) : ∃ (x : V) (xs : List V), vs = x :: xs ∧ RepV K w H x d ∧ RepVs K w H xs ds := by
  cases r with | cons p q => exact ⟨_, _, rfl, p, q⟩
theorem reps_nil {vs : List V} (r : RepVs K w H vs []) : vs = [] := by cases r; rfl
def pairD : D → Option (Key × D)
  | .tup [k, v] => (keyD k).map (·, v)
  | _ => none
def pairsD : List D → Option (List (Key × D))
  | [] => some []
  | d :: r => (pairD d).bind fun kv => (pairsD r).map (kv :: ·)
theorem pairD_ok {v : V} {d : D} {kv : Key × D} (r : RepV K w H v d) (h : pairD d = some kv) : ∃ (a : Addr) (x : V), v = .ref a ∧ SqT K H a [kV kv.1, x] ∧ RepV K w H x kv.2 := by
  unfold pairD at h
  split at h
  · rename_i k0 v0
    cases ek : keyD k0 with
    | none => rw [ek] at h; cases h
    | some k =>
      rw [ek] at h; cases h
      obtain ⟨a, ys, rfl, hs, q⟩ := tup_inv r
      obtain ⟨y1, ys1, rfl, q1, q2⟩ := reps_cons q
      obtain ⟨y2, ys2, rfl, q3, q4⟩ := reps_cons q2
      obtain rfl := reps_nil q4
      obtain ⟨e1, e2⟩ := keyD_ok q1 ek
      exact ⟨a, y2, rfl, e1 ▸ hs.sq, q3⟩
  · cases h
theorem pairsD_ok : ∀ {vs : List V} {ds : List D} {kvs : List (Key × D)}, RepVs K w H vs ds → pairsD ds = some kvs →
    ∃ (ps : List Addr) (xs : List (Key × V)), vs = ps.map V.ref ∧ Paired (fun p kv => SqT K H p [kV kv.1, kv.2]) ps xs ∧ RepF K w H xs kvs
  | _, _, _, .nil, h => by cases h; exact ⟨[], [], rfl, .nil, repF_nil⟩
  | _, _, _, .cons (v := v) (d := d) (ds := ds) r rs, h => by
    have h' : ((pairD d).bind fun kv => (pairsD ds).map (kv :: ·)) = some _ := h
    cases e1 : pairD d with
    | none => rw [e1] at h'; cases h'
    | some kv =>
      cases e2 : pairsD ds with
      | none => rw [e1, e2] at h'; cases h'
      | some kvs0 =>
        rw [e1, e2] at h'; cases h'
        obtain ⟨ps, xs, ev, pp, rf⟩ := pairsD_ok rs e2
        obtain ⟨a, x, rfl, hs, q⟩ := pairD_ok r e1
        exact ⟨a :: ps, (kv.1, x) :: xs, by rw [ev]; rfl, .cons hs pp, repF_cons.mpr ⟨rfl, q, rf⟩⟩
def dictD : GL := fun ds η => match ds with
  | [d] => match seqL d η with
    | some xs => (match pairsD xs with
      | some kvs => some (.obj η.length, η ++ [.dK (mergeD [] kvs)])
      | none => none)
    | none => none
  | _ => none
theorem callD_dict (hc : X.calm = true) : CallR X (.type "dict") (rdL X.K dictD) := call_of (call_dictP hc) fun {xs H Q w η ds z η'} hr r h p => by
  unfold dictD at h
  split at h
  · split at h
    · rename_i e
      split at h
      · rename_i kvs ek
        cases h
        cases r with | cons r1 rr => ?_
        cases rr
        obtain ⟨a, ys, rfl, s, q⟩ := seqL_ok hr r1 e
        obtain ⟨ps, xs, ev, pp, rf⟩ := pairsD_ok q ek
        subst ev
        refine ⟨a, ps, xs, rfl, s, pp, fun b hb => p _ _ _ (Ext.more hb hr) (hr.more hb ⟨_, upd_same, ?_⟩) (.obj (hr.ixO b))⟩
        exact repF_merge (rf.ext (Ext.more hb hr)) repF_nil
      · cases h
    · cases h
  · cases h
def intKeys : List Key → Option (List Int)
  | [] => some []
  | .inl i :: r => (intKeys r).map (i :: ·)
  | _ => none
theorem intKeys_ok : ∀ {ks : List Key} {ns : List Int}, intKeys ks = some ns → ks = ns.map Sum.inl
  | [], _, h => by cases h; rfl
  | .inl i :: r, _, h => by
    have h' : (intKeys r).map (i :: ·) = some _ := h
    cases e : intKeys r with
    | none => rw [e] at h'; cases h'
    | some ms => rw [e] at h'; cases h'; rw [intKeys_ok e]; rfl
  | .inr _ :: _, _, h => by cases h
/-- sorted of a list of ints; of a dict whose keys are ints -/
def sortedD : GL := fun ds η => match ds with
  | [d] => match seqL d η with
    | some xs => (intsOf xs).map fun ns => (.lst ((sortI ns).map D.int), η)
    | none => match d with
      | .obj i => (match η[i]? with
        | some (.dK kvs) => (match intKeys (kvs.map (·.1)) with
          | some ns => if ns.length < 64 then some (.lst ((sortI ns).map D.int), η) else none
          | none => none)
        | _ => none)
      | _ => none
  | _ => none
theorem callD_sorted (hc : X.calm = true) : CallR X (.builtin "sorted") (rdL X.K sortedD) := call_of (CallR.or cr_sortedI (call_sortedDI hc)) fun hr r h p => by
  unfold sortedD at h
  split at h
  · cases r with | cons r1 rr => ?_
    cases rr
    split at h
    · rename_i e
      obtain ⟨a, ys, rfl, s, q⟩ := seqL_ok hr r1 e
      cases eb : intsOf ‹List D› with
      | none => rw [eb] at h; cases h
      | some ns =>
        rw [eb] at h; cases h
        refine .inl ⟨_, ns, rfl, by rw [← ints_ok q eb]; exact s, fun ns' b hp hs hb => ?_⟩
        rw [sortI_of hp hs]
        exact lst_of p hr (ints_rep _) hb
    · split at h
      · rename_i i _
        split at h
        · rename_i kvs eo
          split at h
          · rename_i ns en
            split at h
            · rename_i hl
              cases h
              cases r1 with | obj ha => ?_
              obtain ⟨xs, eH, rf⟩ := hr.at_ _ _ _ ha eo
              refine .inr ⟨_, xs, ns, rfl, .inl eH, by rw [rf.1]; exact intKeys_ok en, hl, fun ys b hp hs hb => ?_⟩
              rw [sortI_of hp hs]
              exact lst_of p hr (ints_rep _) hb
            · cases h
          · cases h
        · cases h
      · cases h
  · cases h
end
end Dn
/-! Dn part 10: what is never reached; things that change: o[i] = v, methods. -/
namespace Dn
open PySem PySem.Spec PyProof.Rows L2
section
variable {X : Cx} {W : WX} {K : PySem.W.Frag} {w w1 w' : Wd} {σ : L2.St} {H H1 H' : Hp} {ρ : Env} {η η1 : Store} {fa fb fc f : FE} {a b c e : Expr} {es : List Expr} {pos p : Pos} {fA : FA}
/-! ### nothing is said of it -/
def noE : FE := fun _ _ => .no
def noT : FT := fun _ _ => .no
def noS : FS := fun _ _ => .no
def noF : FF := fun _ _ => .no
theorem de_no : DE X W e noE := ⟨fun pins s σ H Q I ⟨w, ρ, η, rel, p⟩ => p.elim⟩
theorem dt_no : DT X W e noT := ⟨fun pins s σ H Q I ⟨w, ρ, η, rel, p⟩ => p.elim⟩
theorem ds_no {st : Stmt} : DS X W st noS := ⟨fun pins s σ H D I ⟨w, ρ, η, rel, p⟩ => p.elim⟩
theorem dss_no {ss : List Stmt} : DSs X W ss noS := ⟨fun pins s σ H D I ⟨w, ρ, η, rel, p⟩ => p.elim⟩
theorem fn_no {P : Program} {wl : World} {mg : Str → Option Value} {base : Heap} {CX : CXT} {k n : Nat} {f : Addr} {fd : FuncData} {ps : List Str} : FnOk P wl K mg base CX k f fd ps (spD K n noF) :=
  ⟨fun vs H Q E ⟨w, η, ds, hr, rv, hl, p⟩ => p.elim, fun A outer s H args us vs Q E hr he hb hv ⟨w, η, ds, h1, rv, hl, p⟩ => p.elim⟩
/-! ### o[i] = v -/
abbrev GSet := D → D → D → Store → Option Store
def rdSet (K : PySem.W.Frag) (g : GSet) : TSet := fun o i v H Q => ∃ w η d1 d2 d3, HeapRel K w H η ∧ RepV K w H o d1 ∧ RepV K w H i d2 ∧ RepV K w H v d3 ∧
  match g d1 d2 d3 η with
  | some η' => ∀ w' H', Ext w H w' H' → HeapRel K w' H' η' → Q H'
  | none => False
def sSetIx (g : GSet) (f fo fi : FE) : FS := fun ρ η => (f ρ η).bindS ρ fun v η => (fo ρ η).bindS ρ fun o η => (fi ρ η).bindS ρ fun i η => match g o i v η with
  | some η => .nx ρ η
  | none => .no
theorem ds_setIx {o i : Expr} {fo fi : FE} {g : GSet} {p2 : Pos} (hs : PSet X (rdSet X.K g)) (he : DE X W e f) (ho : DE X W o fo) (hi : DE X W i fi)
    (ha : ∀ v, assign (.Subscript o i p2) X.env v = (do
      let ov ← holding [v] (eval o X.env)
      let iv ← holding [v, ov] (eval i X.env)
      standAt p2
      holding [v, ov, iv] (setItem ov iv v)
      release [v, ov, iv] []) := by intro _; rfl)
    (h1 : swapsWithSole [.Subscript o i p2] e pos.line X.env = pure false := by rfl) (hw : swappedStores [.Subscript o i p2] e X.env = pure none := by rfl)
    (h2 : (assignEach [.Subscript o i p2] X.env).map (·.2) = [assign (.Subscript o i p2) X.env] := by rfl) : DS X W (.Assign [.Subscript o i p2] e pos) (sSetIx g f fo fi) :=
  PS.imp (ps_asg he (pg_sub ho hi hs ha) h1 hw h2) fun E σ H ⟨w, ρ, η, rel, p⟩ => by
    refine (rdE_thenS rel p).imp fun v H1 ⟨w1, d, η1, e1, rel1, rv, p1⟩ => ?_
    refine (rdE_thenS rel1 p1).imp fun u H2 ⟨w2, d2, η2, e2, rel2, rv2, p2⟩ => ?_
    refine (rdE_thenS rel2 p2).imp fun x H3 ⟨w3, d3, η3, e3, rel3, rv3, p3⟩ => ?_
    refine ⟨w3, η3, d2, d3, d, rel3.heap, rv2.ext e3, rv3, (rv.ext e2).ext e3, ?_⟩
    split at p3
    · rename_i η4 eg
      exact fun w' H' e' hr' => p3 σ w' H' e' ⟨rel3.env.ext e', hr'⟩
    · exact p3.elim
/-- a list's item; a dict's -/
def setD : GSet := fun o i v η => match o with
  | .obj k => (match η[k]? with
    | some (.lst xs) => (match i with
      | .int j => (match ixN xs.length j with
        | some n => some (η.set k (.lst (xs.set n v)))
        | none => none)
      | _ => none)
    | some (.dK kvs) => (match keyD i with
      | some q => if kvs.length < sizeLine then some (η.set k (.dK (putD kvs q v))) else none
      | none => none)
    | _ => none)
  | _ => none
theorem PSet.or {t t' : TSet} (h : PSet X t) (h' : PSet X t') : PSet X (fun o i v H Q => t o i v H Q ∨ t' o i v H Q) :=
  fun pins s σ H o i v ov iv u Q I r1 r2 r3 q => q.elim (h pins s σ H o i v ov iv u Q I r1 r2 r3) (h' pins s σ H o i v ov iv u Q I r1 r2 r3)
theorem setD_ok (hu : X.A.units + 64 < cLine) : PSet X (rdSet X.K setD) := by
  intro pins s σ H o i v ov iv u Q I r1 r2 r3 ⟨w, η, d1, d2, d3, hr, q1, q2, q3, p⟩
  have hu' : X.A.units + 1 < cLine := by omega
  refine (PSet.or set_list (set_dict hu')) pins s σ H o i v ov iv u Q I r1 r2 r3 ?_
  cases q1 with
  | @obj k a ha =>
    dsimp only [setD] at p
    cases eo : η[k]? with
    | none => rw [eo] at p; exact p.elim
    | some ob =>
      rw [eo] at p
      cases ob with
      | lst xs =>
        obtain ⟨ys, eH, r⟩ := hr.at_ _ _ _ ha eo
        cases q2 with
        | int j =>
          dsimp only at p
          cases en : ixN xs.length j with
          | none => rw [en] at p; exact p.elim
          | some n =>
            rw [en] at p
            refine .inl ⟨a, ys, j, n, rfl, rfl, eH, by rw [r.length]; exact en, ?_⟩
            exact p w _ (Ext.write ha hr) (hr.write ha ⟨_, upd_same, (r.set q3 n).ext (Ext.write ha hr)⟩)
        | _ => exact p.elim
      | dK kvs =>
        obtain ⟨ys, eH, r⟩ := hr.at_ _ _ _ ha eo
        dsimp only at p
        cases ek : keyD d2 with
        | none => rw [ek] at p; exact p.elim
        | some q =>
          rw [ek] at p
          dsimp only at p
          split at p
          case h_2 => exact p.elim
          rename_i hm
          split at hm
          case isFalse => cases hm
          rename_i hl
          cases hm
          obtain ⟨e1, _⟩ := keyD_ok q2 ek
          subst e1
          refine .inr ⟨a, _, rfl, DPut.k eH (by rw [repF_length r]; exact hl), ?_⟩
          exact p w _ (Ext.write ha hr) (hr.write ha ⟨_, upd_same, (repF_put r q3).ext (Ext.write ha hr)⟩)
      | _ => exact p.elim
  | _ => exact p.elim

/-! ### methods of built-in types -/
def tyM (T : String) (d : D) (η : Store) : Bool := match d with
  | .str _ => decide (T = "str")
  | .lst _ => decide (T = "list")
  | .scr _ => decide (T = "list")
  | .obj k => (match η[k]? with
    | some (.lst _) => decide (T = "list")
    | some (.dK _) => decide (T = "dict")
    | some (.dT _) => decide (T = "dict")
    | _ => false)
  | _ => false
theorem tyM_ok {T : String} {v : V} {d : D} (hr : HeapRel K w H η) (rv : RepV K w H v d) (h : tyM T d η = true) : tyV K T v H := by
  cases rv with
  | str x => exact (of_decide_eq_true h : T = "str")
  | lst s r => exact .inl ⟨(of_decide_eq_true h : T = "list"), _, s.sq⟩
  | scr s r => exact .inl ⟨(of_decide_eq_true h : T = "list"), _, s.sq⟩
  | @obj k a ha =>
    dsimp only [tyM] at h
    split at h
    · rename_i xs eo
      obtain ⟨ys, e, r⟩ := hr.at_ _ _ _ ha eo
      exact .inl ⟨(of_decide_eq_true h : T = "list"), _, SqL.of e⟩
    · rename_i kvs eo
      obtain ⟨ys, e, r⟩ := hr.at_ _ _ _ ha eo
      exact .inr (.inr (.inl ⟨(of_decide_eq_true h : T = "dict"), .inl ⟨_, e⟩⟩))
    · rename_i kvs eo
      obtain ⟨ys, e, r⟩ := hr.at_ _ _ _ ha eo
      exact .inr (.inr (.inl ⟨(of_decide_eq_true h : T = "dict"), .inr ⟨_, e⟩⟩))
    · cases h
  | _ => cases h
def eMt (T : String) (g : D → GL) (fo : FE) (fA : FA) : FE := fun ρ η => (fo ρ η).bind fun x η => if tyM T x η = true then (fA ρ η).bind fun xs η => liftO (g x xs η) else .no
def eMt0 (T : String) (g : D → GL) (fo : FE) : FE := fun ρ η => (fo ρ η).bind fun x η => if tyM T x η = true then liftO (g x [] η) else .no
variable {o : Expr} {fo : FE} {name : Str} {apos cpos : Pos} {T id : String} {g : D → GL}
theorem de_mt0 (pa : PlainAttrs T) (slot : Slot T name id) (hty : typeOf (.builtin id) = pure (.type "method_descriptor")) (hm : MtR X id (rdM X.K g)) (ho : DE X W o fo)
    (hbase : attributeBase o name X.env (eval o X.env) = eval o X.env := by rfl) (hline : (apos.endLine == cpos.line) = true := by rfl) : DE X W (.Call (.Attribute o name apos) [] [] cpos) (eMt0 T g fo) :=
  PE.imp (pe_bm0 pa slot hty hm ho hbase hline) fun σ H Q ⟨w, ρ, η, rel, p⟩ => by
    refine (rdE_then rel p).imp fun v H1 ⟨w1, d, η1, e, rel1, rv, p1⟩ => ?_
    split at p1
    · rename_i ht
      exact ⟨tyM_ok rel1.heap rv ht, w1, η1, d, [], rel1.heap, rv, .nil, p1.lift⟩
    · exact p1.elim
theorem de_mt (pa : PlainAttrs T) (slot : Slot T name id) (hty : typeOf (.builtin id) = pure (.type "method_descriptor")) (hm : MtR X id (rdM X.K g)) (ho : DE X W o fo) (ha : DA X W (e :: es) fA)
    (hbase : attributeBase o name X.env (eval o X.env) = eval o X.env := by rfl)
    (hfew : ((backTo cpos (starEach (e :: es) X.env)).all (fun x => !x.1) && (backToKw cpos (keywordEach [] X.env)).all (fun x => x.1.isSome)
      && decide ((e :: es).length + ([] : List Keyword).length + (if ([] : List Keyword).isEmpty then 0 else 1) < 30)) = true := by rfl)
    (hline : (apos.endLine == cpos.line) = true := by rfl) (hs : starEach (e :: es) X.env = (false, eval e X.env) :: starEach es X.env := by rfl) (hplain : (backTo cpos (starEach es X.env)).any (·.1) = false := by rfl) :
    DE X W (.Call (.Attribute o name apos) (e :: es) [] cpos) (eMt T g fo fA) :=
  PE.imp (pe_bm pa slot hty hm ho ha hbase hfew hline hs hplain) fun σ H Q ⟨w, ρ, η, rel, p⟩ => by
    refine (rdE_then rel p).imp fun v H1 ⟨w1, d, η1, e, rel1, rv, p1⟩ => ?_
    split at p1
    · rename_i ht
      refine ⟨tyM_ok rel1.heap rv ht, ?_⟩
      obtain ⟨w2, ρ2, η2, rel2, q⟩ := rdA_then rel1 p1
      exact ⟨w2, ρ2, η2, rel2, q.imp fun vs H2 ⟨w3, ds, η3, e3, rel3, rvs, p3⟩ => ⟨w3, η3, d, ds, rel3.heap, rv.ext e3, rvs, p3.lift⟩⟩
    · exact p1.elim
theorem mt_of {id : String} {r : V → List V → Hp → VK → Prop} {g : D → GL} (ho : MtR X id r)
    (m : ∀ {x xs H} {Q : VK} {w η d ds z η'}, HeapRel X.K w H η → RepV X.K w H x d → RepVs X.K w H xs ds → g d ds η = some (z, η') → (∀ v w' H', Ext w H w' H' → HeapRel X.K w' H' η' → RepV X.K w' H' v z → Q v H') → r x xs H Q) : MtR X id (rdM X.K g) :=
  fun pins s σ H x xs v us Q I r1 r2 ⟨w, η, d, ds, hr, q1, q2, p⟩ => by
    refine ho pins s σ H x xs v us Q I r1 r2 ?_
    cases e : g d ds η with
    | none => rw [e] at p; exact p.elim
    | some zη =>
      obtain ⟨z, η'⟩ := zη
      rw [e] at p
      exact m hr q1 q2 e p
/-- the list at a thing -/
def objL (d : D) (η : Store) : Option (Nat × List D) := match d with
  | .obj k => (match η[k]? with
    | some (.lst xs) => some (k, xs)
    | _ => none)
  | _ => none
theorem objL_ok {v : V} {d : D} {k : Nat} {ds : List D} (hr : HeapRel K w H η) (rv : RepV K w H v d) (h : objL d η = some (k, ds)) : ∃ a xs, v = .ref a ∧ w.io[k]? = some a ∧ H a = some (.lst xs) ∧ RepVs K w H xs ds := by
  cases rv with
  | @obj k a ha =>
    dsimp only [objL] at h
    split at h
    · rename_i ys eo
      cases h
      obtain ⟨xs, e, r⟩ := hr.at_ _ _ _ ha eo
      exact ⟨a, xs, rfl, ha, e, r⟩
    · cases h
  | _ => cases h
theorem wr_of {Q : VK} {z : D} {v : V} {a : Addr} {k : Nat} {xs : List V} {ds : List D} (p : ∀ v w' H', Ext w H w' H' → HeapRel K w' H' (η.set k (.lst ds)) → RepV K w' H' v z → Q v H') (hr : HeapRel K w H η) (ha : w.io[k]? = some a)
    (r : RepVs K w H xs ds) (rv : RepV K w H v z) : Q v (upd H a (.lst xs)) :=
  p v w _ (Ext.write ha hr) (hr.write ha ⟨_, upd_same, r.ext (Ext.write ha hr)⟩) (rv.ext (Ext.write ha hr))
def appD : D → GL := fun d ds η => match ds with
  | [y] => (match objL d η with
    | some (k, xs) => if xs.length < sizeLine then some (.non, η.set k (.lst (xs ++ [y]))) else none
    | none => none)
  | _ => none
theorem mtD_append : MtR X "list.append" (rdM X.K appD) := mt_of (id := "list.append") mt_append fun hr q r h p => by
  unfold appD at h
  split at h
  · split at h
    · rename_i k xs eo
      split at h
      · rename_i hl
        cases h
        obtain ⟨a, ys, rfl, ha, eH, ry⟩ := objL_ok hr q eo
        obtain ⟨x1, xs1, rfl, q1, q2⟩ := reps_cons r
        obtain rfl := reps_nil q2
        exact ⟨a, ys, x1, rfl, rfl, eH, by rw [ry.length]; exact hl, wr_of p hr ha (ry.append (.one q1)) .non⟩
      · cases h
    · cases h
  · cases h
def extD : D → GL := fun d ds η => match ds with
  | [y] => (match objL d η, lstOf y η with
    | some (k, xs), some ys => if xs.length + ys.length ≤ sizeLine then some (.non, η.set k (.lst (xs ++ ys))) else none
    | _, _ => none)
  | _ => none
theorem mtD_extend : MtR X "list.extend" (rdM X.K extD) := mt_of (id := "list.extend") mt_extend fun hr q r h p => by
  unfold extD at h
  split at h
  · split at h
    · rename_i k xs ys eo el
      split at h
      · rename_i hl
        cases h
        obtain ⟨a, zs, rfl, ha, eH, rz⟩ := objL_ok hr q eo
        obtain ⟨x1, xs1, rfl, q1, q2⟩ := reps_cons r
        obtain rfl := reps_nil q2
        obtain ⟨b, us, rfl, eB, ru⟩ := lstOf_ok hr q1 el
        exact ⟨a, b, zs, us, rfl, rfl, eH, eB, by rw [rz.length, ru.length]; exact hl, wr_of p hr ha (rz.append ru) .non⟩
      · cases h
    · cases h
  · cases h
theorem RepVs.dropLast {xs : List V} {ds : List D} (r : RepVs K w H xs ds) : RepVs K w H xs.dropLast ds.dropLast := by
  rw [List.dropLast_eq_take, List.dropLast_eq_take, r.length]; exact r.take _
theorem RepVs.eraseIdx : ∀ {xs : List V} {ds : List D} (i : Nat), RepVs K w H xs ds → RepVs K w H (xs.eraseIdx i) (ds.eraseIdx i)
  | _, _, _, .nil => .nil
  | _, _, 0, .cons _ t => t
  | _, _, i + 1, .cons q t => .cons q (RepVs.eraseIdx i t)
def popD : D → GL := fun d ds η => match objL d η with
  | some (k, xs) => (match ds with
    | [] => (match xs[xs.length - 1]? with
      | some y => some (y, η.set k (.lst xs.dropLast))
      | none => none)
    | [.int i] => if -(2 ^ 63) ≤ i ∧ i < 2 ^ 63 then (match seqIndex? i xs.length with
      | some n => (match xs[n]? with
        | some y => some (y, η.set k (.lst (xs.eraseIdx n)))
        | none => none)
      | none => none) else none
    | _ => none)
  | none => none
theorem mtD_pop : MtR X "list.pop" (rdM X.K popD) := mt_of (id := "list.pop") (MtR.or (id := "list.pop") mt_pop mt_popAt) fun hr q r h p => by
  unfold popD at h
  split at h
  · rename_i k xs eo
    obtain ⟨a, zs, rfl, ha, eH, rz⟩ := objL_ok hr q eo
    split at h
    · split at h
      · rename_i y ey
        cases h
        obtain rfl := reps_nil r
        obtain ⟨u, eu, ru⟩ := rz.get ey
        exact .inl ⟨a, zs, u, rfl, rfl, eH, by rw [rz.length]; exact eu, wr_of p hr ha rz.dropLast ru⟩
      · cases h
    · split at h
      · rename_i hb
        split at h
        · rename_i n en
          split at h
          · rename_i y ey
            cases h
            obtain ⟨x1, xs1, rfl, q1, q2⟩ := reps_cons r
            obtain rfl := reps_nil q2
            cases q1
            obtain ⟨u, eu, ru⟩ := rz.get ey
            exact .inr ⟨a, zs, _, n, u, rfl, rfl, eH, hb.1, hb.2, by rw [rz.length]; exact en, eu, wr_of p hr ha (rz.eraseIdx n) ru⟩
          · cases h
        · cases h
      · cases h
    · cases h
  · cases h
end
end Dn
/-! Dn part 11: the text's defs, by name. -/
namespace Dn
open PySem PySem.Spec PyProof.Rows L2
@[irreducible] def fuel : Nat := 2 ^ 1000000
theorem fuel_big {n : Nat} (h : n ≤ 1000000) : 2 ^ n ≤ fuel := by unfold fuel; exact Nat.pow_le_pow_right (by decide) h
theorem fuel_lt {m n : Nat} (h : m < 2 ^ n) (hn : n ≤ 1000000) : m < fuel := Nat.lt_of_lt_of_le h (fuel_big hn)
/-- the def x of the module: n parameters, what it does -/
structure FOk (P : Program) (w : World) (K : PySem.W.Frag) (mg : Str → Option Value) (base : Heap) (k : Nat) (x : Str) (n : Nat) (F : FF) : Prop where
  g : mg x = some (.ref (He.ga K x))
  kp : PySem.W.keepIn K (.ref (He.ga K x)) = true
  ok : ∃ (fd : FuncData) (ps : List Str), FnOk P w K mg base (L2.CX P w) k (He.ga K x) fd ps (spD K n F) ∧ Binds K fd ps []
section
variable {P : Program} {w : World} {K : PySem.W.Frag} {mg : Str → Option Value} {base : Heap} {j k n : Nat} {x : Str} {F : FF}
theorem FOk.mono (h : FOk P w K mg base j x n F) (l : j ≤ k) : FOk P w K mg base k x n F :=
  ⟨h.g, h.kp, let ⟨fd, ps, a, b⟩ := h.ok; ⟨fd, ps, a.mono l, b⟩⟩
theorem FOk.trim (h : FOk P w K mg base k x n F) : FOk P w K mg base k x n (trimF F) :=
  ⟨h.g, h.kp, let ⟨fd, ps, a, b⟩ := h.ok; ⟨fd, ps, fn_trim a, b⟩⟩
/-- a def as the top left it -/
structure Fn1 (K : PySem.W.Frag) (mg : Str → Option Value) (x : Str) (st : Stmt) : Prop where
  g : mg x = some (.ref (He.ga K x))
  f : ∃ fd, FunD K x x (defArgs st) (defBody st) (defScope st) [] [] (He.ga K x) fd
theorem Fn1.ok {N ps : List Str} {b : FS} {st : Stmt} (h : Fn1 K mg x st) (S : FnScope N ps (defScope st)) (hn : ps.length = n)
    (hb : ∀ (cdv : Value) (A : Around) (outer : List PySem.Env) (s : Shared) (H : Hp) (E : XK) (f : Addr), Room k (A.deeper (envOfC x (defScope st) s.heap.objs.size f cdv)) →
      Takes (cxOf (L2.CX P w) P w K mg base N x (defScope st) f cdv A outer s H E) (fun c d _ H => E c d H) →
      PassesOwn (model P w) (A.deeper (envOfC x (defScope st) s.heap.objs.size f cdv)) (envOfC x (defScope st) s.heap.objs.size f cdv) (cxOf (L2.CX P w) P w K mg base N x (defScope st) f cdv A outer s H E).xe →
      DSs (cxOf (L2.CX P w) P w K mg base N x (defScope st) f cdv A outer s H E) (fun c d _ H => E c d H) (defBody st) b)
    (bn : ∀ (kV doc pm : Value) (an : Option Addr) (cdv ct : Value) (us : List Value), us.length = ps.length → bindArgs (PySem.W.fnOf x x (defArgs st) (defBody st) (defScope st) .none kV doc pm an cdv ct) ⟨us, []⟩ = pure (ps.zip us)) :
    FOk P w K mg base (k + 1) x n (runF N.length b) := by
  obtain ⟨fd, F⟩ := h.f
  exact ⟨h.g, F.kp, fd, ps, fn_ok F S hn fun cdv A outer s H E hr => hb cdv A outer s H E _ hr (takes_of rfl rfl rfl rfl) (passes_of rfl), F.bindsN bn⟩
end
section
variable {X : Cx} {W : WX} {e : Expr} {es : List Expr} {pos p : Pos} {fA : FA}
theorem de_callF {x : Str} {n k : Nat} {F : FF} (c : FOk X.prog X.w X.K X.mg X.base k x n F) (tk : Takes X W) (hr : Room k X.A) (ha : DA X W (e :: es) fA) (hg : Gl X x := by rfl)
    (hdb : (x == ("__debug__" : Str)) = false := by decide) (he : starEach (e :: es) X.env = (false, eval e X.env) :: starEach es X.env := by rfl) (hpl : (backTo pos (starEach es X.env)).any (·.1) = false := by rfl) :
    DE X W (.Call (.Name x p) (e :: es) [] pos) (eCall n F fA) := by
  obtain ⟨fd, ps, a, b⟩ := c.ok
  exact de_call tk hr a c.g c.kp b ha hg hdb he hpl
theorem pe_callS0 {k : Nat} {f : Addr} {fd : FuncData} {ps : List Str} {sp : Sp} {CX : CXT} {E : L2.St → XK} {x : Str} (F : FnOk X.prog X.w X.K X.mg X.base CX k f fd ps sp) (hr : Room k X.A) (hg : Gl X x) (hm : X.mg x = some (.ref f)) (hk : PySem.W.keepIn X.K (.ref f) = true) (hb : Binds X.K fd ps []) (hx : ∀ σ, PassesAt CX X σ (E σ))
    (hdb : (x == ("__debug__" : Str)) = false := by decide) : PE X (.Call (.Name x p) [] [] pos) (fun σ H Q => sp [] H Q (E σ)) := by
  refine ⟨fun pins s σ H Q I h => ?_⟩
  refine wpAny_Call_Name_kw (ld_glob I hg hm ?_ hdb)
  exact PySem.W.callWith_K0 I.kIn hk (run_fnS F hr hb (hx σ) I .nil h)
theorem de_callF0 {x : Str} {k : Nat} {F : FF} (c : FOk X.prog X.w X.K X.mg X.base k x 0 F) (tk : Takes X W) (hr : Room k X.A) (hg : Gl X x := by rfl)
    (hdb : (x == ("__debug__" : Str)) = false := by decide) : DE X W (.Call (.Name x p) [] [] pos) (eCall 0 F aNil) := by
  obtain ⟨fd, ps, a, b⟩ := c.ok
  refine PE.imp (pe_callS0 a hr hg c.g c.kp b (fun σ => passAt tk σ) hdb) fun σ H Q ⟨w, ρ, η, rel, p⟩ => ?_
  exact ⟨w, η, [], rel.heap, .nil, rfl, p⟩
end
/-- a def's place at the top -/
def dfn (x : Str) (st : Stmt) : He.DefD := ⟨(x, none), x, x, defArgs st, defBody st, defScope st, [], []⟩
theorem fn1_of {K : PySem.W.Frag} {h : Heap} {mg : Str → Option Value} (X : K.In h) (G : h.Ns mainGlobals mg) {fa : List He.Fa} {fn : List He.DefD} (c : He.SaysD fa fn K) {x : Str} {st : Stmt} (i j : Nat) (hi : fa[i]? = some (.glo x)) (hj : fn[j]? = some (dfn x st)) : Fn1 K mg x st := by
  obtain ⟨fd, F⟩ := c.def_ j hj
  exact ⟨He.glo_ok X G (c.fact i hi), fd, F⟩
end Dn
/-! Dn part 12: more calls. -/
namespace Dn
open PySem PySem.Spec PyProof.Rows L2
section
variable {X : Cx} {W : WX} {K : PySem.W.Frag} {w w1 w' : Wd} {H H1 H' : Hp} {η η1 : Store}
def strD : GL := fun ds η => match ds with
  | [.str x] => some (.str x, η)
  | [.int i] => if i.natAbs.log2 < 1920 then some (.str (toString i), η) else none
  | _ => none
theorem callD_str : CallR X (.type "str") (rdL X.K strD) := call_of (CallR.or SkE.call_str_str call_str_int) fun hr r h p => by
  unfold strD at h
  split at h
  · cases h
    cases r with | cons r1 rr => ?_
    cases rr
    cases r1
    exact .inl ⟨_, rfl, val_of p hr (.str _)⟩
  · split at h
    · rename_i hl
      cases h
      cases r with | cons r1 rr => ?_
      cases rr
      cases r1
      exact .inr ⟨_, rfl, hl, val_of p hr (.str _)⟩
    · cases h
  · cases h
end
end Dn
/-! Dn part 13: the end; what a reading comes to, by wishes. -/
namespace Dn
open PySem PySem.Spec PyProof.Rows L2
/-! ### the end -/
theorem FnOk.no_exc {P : Program} {w : World} {K : PySem.W.Frag} {mg : Str → Option Value} {base : Heap} {k : Nat} {f : Addr} {fd : FuncData} {ps : List Str} {sp : Sp} (F : FnOk P w K mg base (L2.CX P w) k f fd ps sp) :
    FnOk P w K mg base L2.CX0 k f fd ps (fun vs H Q _ => sp vs H Q L2.E0) :=
  ⟨fun vs H Q _ h => F.len vs H Q _ h, fun A outer s H args us vs Q E hr he hb hv h => codeAny_mono (F.run A outer s H args us vs Q L2.E0 hr he hb hv h) fun r s' q => by
    cases r with
    | ok u => cases u <;> exact q
    | error e => obtain ⟨_, _, _, _, _, _, _, _, _, _, _, _, z⟩ := q; exact z⟩
theorem law_sp {K : PySem.W.Frag} {n : Nat} {F : FF} (h : ∀ ns : List Int, ns.length ≤ n → ∃ η', F [.scr (ns.map D.int)] [] = .ok (.bl true) η') (H : Hp) (a : Addr) (ns : List Int) (hl : ns.length ≤ n) (hO : Only H) (hS : SqL K H a (ns.map V.int)) :
    spD K 1 F [.ref a] H (fun v _ => v = .bl true) L2.E0 := by
  obtain ⟨η', e⟩ := h ns hl
  refine ⟨⟨[], []⟩, [], [.scr (ns.map D.int)], ⟨rfl, List.nodup_nil, fun i b o hb => by simp at hb, fun b hb => by cases hb⟩, .cons (.scr (xs := ns.map V.int) ?_ ?_) .nil, rfl, ?_⟩
  · rcases hS with hS | hS
    · refine .inl ⟨?_, by simp, by simp⟩
      rcases hO a with h0 | ⟨o, xs, h0⟩
      · rcases hS with h1 | ⟨o, h1⟩
        · rw [h0] at h1; cases h1
        · rw [h0] at h1; cases h1
      · rcases hS with h1 | ⟨o, h1⟩
        · rw [h0] at h1; cases h1
        · exact ⟨o, h1⟩
    · exact .inr hS
  · exact ints_rep ns
  · rw [e]
    intro v w' H' _ _ r
    cases r; rfl

/-! ### wishes -/
def wpR {α : Type} (r : R α) (Q : α → Store → Prop) (E : Ex → Store → Prop) : Prop := match r with
  | .ok a η => Q a η
  | .exc x η => E x η
  | .no => False
structure Po where
  nx : Env → Store → Prop
  rt : D → Store → Prop
  bk : Env → Store → Prop
  ct : Env → Store → Prop
  ex : Ex → Env → Store → Prop
def wpS (r : RS) (P : Po) : Prop := match r with
  | .nx ρ η => P.nx ρ η
  | .ret d η => P.rt d η
  | .brk ρ η => P.bk ρ η
  | .cnt ρ η => P.ct ρ η
  | .exc x ρ η => P.ex x ρ η
  | .no => False
def wpO {α : Type} (o : Option α) (Q : α → Prop) : Prop := match o with
  | some a => Q a
  | none => False
@[simp] theorem wpO_some {α : Type} {a : α} {Q : α → Prop} : wpO (some a) Q ↔ Q a := Iff.rfl
@[simp] theorem wpO_none {α : Type} {Q : α → Prop} : wpO (none : Option α) Q ↔ False := Iff.rfl
section
variable {α β : Type} {r : R α} {k : α → Store → R β} {Q : α → Store → Prop} {Q2 : β → Store → Prop} {QD : D → Store → Prop} {QB : Bool → Store → Prop} {QL : List D → Store → Prop} {E : Ex → Store → Prop} {P : Po} {a : α} {η : Store} {ρ : Env} {x : Ex} {fa fb fc f : FE} {s t : FT} {fA : FA}
@[simp] theorem wpR_ok : wpR (.ok a η) Q E ↔ Q a η := Iff.rfl
@[simp] theorem wpR_exc : wpR (.exc x η : R α) Q E ↔ E x η := Iff.rfl
@[simp] theorem wpR_no : wpR (.no : R α) Q E ↔ False := Iff.rfl
theorem wpR_bind : wpR (r.bind k) Q2 E ↔ wpR r (fun a η => wpR (k a η) Q2 E) E := by cases r <;> exact Iff.rfl
theorem wpS_bindS {kS : α → Store → RS} : wpS (r.bindS ρ kS) P ↔ wpR r (fun a η => wpS (kS a η) P) (fun x η => P.ex x ρ η) := by cases r <;> exact Iff.rfl
theorem wpR_lift {o : Option (α × Store)} : wpR (liftO o) Q E ↔ wpO o fun p => Q p.1 p.2 := by cases o <;> exact Iff.rfl
theorem wpR_imp {Q' : α → Store → Prop} {E' : Ex → Store → Prop} (h : wpR r Q E) (m : ∀ a η, Q a η → Q' a η) (m2 : ∀ x η, E x η → E' x η) : wpR r Q' E' := by
  cases r with
  | ok a η => exact m _ _ h
  | exc x η => exact m2 _ _ h
  | no => exact h
theorem wpS_imp {P' : Po} {r : RS} (h : wpS r P) (m1 : ∀ ρ η, P.nx ρ η → P'.nx ρ η) (m2 : ∀ ρ η, P.rt ρ η → P'.rt ρ η) (m3 : ∀ ρ η, P.bk ρ η → P'.bk ρ η) (m4 : ∀ ρ η, P.ct ρ η → P'.ct ρ η) (m5 : ∀ x ρ η, P.ex x ρ η → P'.ex x ρ η) : wpS r P' := by
  cases r with
  | nx ρ η => exact m1 _ _ h
  | ret ρ η => exact m2 _ _ h
  | brk ρ η => exact m3 _ _ h
  | cnt ρ η => exact m4 _ _ h
  | exc x ρ η => exact m5 _ _ _ h
  | no => exact h
theorem wpR_congr {r : R α} {Q Q' : α → Store → Prop} (h : ∀ a η, Q a η ↔ Q' a η) : wpR r Q E ↔ wpR r Q' E := by
  have e : Q = Q' := funext fun a => funext fun η => propext (h a η)
  rw [e]
/-- an answer that is known -/
theorem wpR_of {r : R α} (h : r = .ok a η) (q : Q a η) : wpR r Q E := by rw [h]; exact q
theorem ok_of_wpR {r : R α} (h : wpR r Q (fun _ _ => False)) : ∃ a η, r = .ok a η ∧ Q a η := by
  cases r with
  | ok a η => exact ⟨a, η, rfl, h⟩
  | exc x η => exact h.elim
  | no => exact h.elim
/-! expressions -/
@[simp] theorem w_gv {i : Nat} : wpR (gv i ρ η) QD E ↔ wpO (ρ[i]?) fun o => wpO o fun d => QD d η := by
  unfold gv
  cases e : ρ[i]? with
  | none => exact Iff.rfl
  | some o => cases o <;> exact Iff.rfl
@[simp] theorem w_cst {d : D} : wpR (cst d ρ η) QD E ↔ QD d η := Iff.rfl
@[simp] theorem w_e1 {g : G1} : wpR (e1 g fa ρ η) QD E ↔ wpR (fa ρ η) (fun x η => wpO (g x η) fun p => QD p.1 p.2) E := by
  unfold e1; rw [wpR_bind]; simp only [wpR_lift]
@[simp] theorem w_e2 {g : G2} : wpR (e2 g fa fb ρ η) QD E ↔ wpR (fa ρ η) (fun x η => wpR (fb ρ η) (fun y η => wpO (g x y η) fun p => QD p.1 p.2) E) E := by
  unfold e2; rw [wpR_bind]; simp only [wpR_lift, wpR_bind]
@[simp] theorem w_eL {g : GL} : wpR (eL g fA ρ η) QD E ↔ wpR (fA ρ η) (fun xs η => wpO (g xs η) fun p => QD p.1 p.2) E := by
  unfold eL; rw [wpR_bind]; simp only [wpR_lift]
@[simp] theorem w_aNil : wpR (aNil ρ η) QL E ↔ QL [] η := Iff.rfl
@[simp] theorem w_aCons : wpR (aCons f fA ρ η) QL E ↔ wpR (f ρ η) (fun d η => wpR (fA ρ η) (fun ds η => QL (d :: ds) η) E) E := by
  unfold aCons; rw [wpR_bind]; simp only [wpR_bind, wpR_ok]
theorem wpR_ite {c : Prop} [Decidable c] {r r' : R α} : wpR (if c then r else r') Q E ↔ if c then wpR r Q E else wpR r' Q E := by split <;> exact Iff.rfl
@[simp] theorem w_mkT : wpR (mkT fA ρ η) QD E ↔ wpR (fA ρ η) (fun ds η => ds.length ≤ sizeLine ∧ QD (.tup ds) η) E := by
  unfold mkT; rw [wpR_bind]
  have e : ∀ (ds : List D) (η : Store), wpR (if ds.length ≤ sizeLine then R.ok (D.tup ds) η else R.no) QD E ↔ ds.length ≤ sizeLine ∧ QD (.tup ds) η := fun ds η => by
    by_cases h : ds.length ≤ sizeLine
    · rw [if_pos h]; simp [h]
    · rw [if_neg h]; simp [h]
  exact wpR_congr e
@[simp] theorem w_mkL : wpR (mkL fA ρ η) QD E ↔ wpR (fA ρ η) (fun ds η => ds.length ≤ sizeLine ∧ QD (.lst ds) η) E := by
  unfold mkL; rw [wpR_bind]
  have e : ∀ (ds : List D) (η : Store), wpR (if ds.length ≤ sizeLine then R.ok (D.lst ds) η else R.no) QD E ↔ ds.length ≤ sizeLine ∧ QD (.lst ds) η := fun ds η => by
    by_cases h : ds.length ≤ sizeLine
    · rw [if_pos h]; simp [h]
    · rw [if_neg h]; simp [h]
  exact wpR_congr e
@[simp] theorem w_mkO : wpR (mkO fA ρ η) QD E ↔ wpR (fA ρ η) (fun ds η => ds.length ≤ sizeLine ∧ QD (.obj η.length) (η ++ [.lst ds])) E := by
  unfold mkO; rw [wpR_bind]
  have e : ∀ (ds : List D) (η : Store), wpR (if ds.length ≤ sizeLine then R.ok (D.obj η.length) (η ++ [.lst ds]) else R.no) QD E ↔ ds.length ≤ sizeLine ∧ QD (.obj η.length) (η ++ [.lst ds]) := fun ds η => by
    by_cases h : ds.length ≤ sizeLine
    · rw [if_pos h]; simp [h]
    · rw [if_neg h]; simp [h]
  exact wpR_congr e
@[simp] theorem w_oNone {QO : Option Int → Store → Prop} : wpR (oNone ρ η) QO E ↔ QO none η := Iff.rfl
def isI (d : D) : Option Int := match d with
  | .int i => some i
  | _ => none
@[simp] theorem isI_int {i : Int} : isI (.int i) = some i := rfl
@[simp] theorem w_oSome {QO : Option Int → Store → Prop} : wpR (oSome f ρ η) QO E ↔ wpR (f ρ η) (fun d η => wpO (isI d) fun i => QO (some i) η) E := by
  unfold oSome; rw [wpR_bind]
  have e : ∀ (d : D) (η : Store), wpR (match d with | .int i => R.ok (some i) η | _ => R.no) QO E ↔ wpO (isI d) fun i => QO (some i) η := fun d η => by
    cases d <;> exact Iff.rfl
  exact wpR_congr e
@[simp] theorem w_eSl {g : GS} {fl fh : FO} : wpR (eSl g fa fl fh ρ η) QD E ↔ wpR (fa ρ η) (fun x η => wpR (fl ρ η) (fun l η => wpR (fh ρ η) (fun u η => wpO (g x l u η) fun p => QD p.1 p.2) E) E) E := by
  unfold eSl; rw [wpR_bind]; simp only [wpR_lift, wpR_bind]
@[simp] theorem w_eCall {n : Nat} {F : FF} : wpR (eCall n F fA ρ η) QD E ↔ wpR (fA ρ η) (fun ds η => ds.length = n ∧ wpR (F ds η) QD E) E := by
  unfold eCall; rw [wpR_bind]
  have e : ∀ (ds : List D) (η : Store), wpR (if ds.length = n then F ds η else .no) QD E ↔ ds.length = n ∧ wpR (F ds η) QD E := fun ds η => by
    by_cases h : ds.length = n
    · rw [if_pos h]; simp [h]
    · rw [if_neg h]; simp [h]
  exact wpR_congr e
@[simp] theorem w_eMt {T : String} {g : D → GL} : wpR (eMt T g fa fA ρ η) QD E ↔ wpR (fa ρ η) (fun x η => tyM T x η = true ∧ wpR (fA ρ η) (fun xs η => wpO (g x xs η) fun p => QD p.1 p.2) E) E := by
  unfold eMt; rw [wpR_bind]
  have e : ∀ (x : D) (η : Store), wpR (if tyM T x η = true then (fA ρ η).bind fun xs η => liftO (g x xs η) else .no) QD E ↔ tyM T x η = true ∧ wpR (fA ρ η) (fun xs η => wpO (g x xs η) fun p => QD p.1 p.2) E := fun x η => by
    by_cases h : tyM T x η = true
    · rw [if_pos h, wpR_bind]; simp [h, wpR_lift]
    · rw [if_neg h]; simp [h]
  exact wpR_congr e
@[simp] theorem w_eMt0 {T : String} {g : D → GL} : wpR (eMt0 T g fa ρ η) QD E ↔ wpR (fa ρ η) (fun x η => tyM T x η = true ∧ wpO (g x [] η) fun p => QD p.1 p.2) E := by
  unfold eMt0; rw [wpR_bind]
  have e : ∀ (x : D) (η : Store), wpR (if tyM T x η = true then liftO (g x [] η) else .no) QD E ↔ tyM T x η = true ∧ wpO (g x [] η) fun p => QD p.1 p.2 := fun x η => by
    by_cases h : tyM T x η = true
    · rw [if_pos h]; simp [h, wpR_lift]
    · rw [if_neg h]; simp [h]
  exact wpR_congr e
@[simp] theorem w_chn {g g' : G2} : wpR (chn g g' fa fb fc ρ η) QD E ↔ wpR (fa ρ η) (fun x η => wpR (fb ρ η) (fun y η => wpO (g x y η) fun p => match p.1 with
    | .bl true => wpR (fc ρ p.2) (fun u η => wpO (g' y u η) fun p => QD p.1 p.2) E
    | .bl false => QD (.bl false) p.2
    | _ => False) E) E := by
  unfold chn; rw [wpR_bind]
  have e : ∀ (x : D) (η : Store), wpR ((fb ρ η).bind fun y η => (liftO (g x y η)).bind fun z η => match z with
      | .bl true => (fc ρ η).bind fun u η => liftO (g' y u η)
      | .bl false => .ok (.bl false) η
      | _ => .no) QD E ↔ wpR (fb ρ η) (fun y η => wpO (g x y η) fun p => match p.1 with
        | .bl true => wpR (fc ρ p.2) (fun u η => wpO (g' y u η) fun p => QD p.1 p.2) E
        | .bl false => QD (.bl false) p.2
        | _ => False) E := fun x η => by
    rw [wpR_bind]
    have e2 : ∀ (y : D) (η : Store), wpR ((liftO (g x y η)).bind fun z η => match z with
      | .bl true => (fc ρ η).bind fun u η => liftO (g' y u η)
      | .bl false => .ok (.bl false) η
      | _ => .no) QD E ↔ wpO (g x y η) fun p => match p.1 with
        | .bl true => wpR (fc ρ p.2) (fun u η => wpO (g' y u η) fun p => QD p.1 p.2) E
        | .bl false => QD (.bl false) p.2
        | _ => False := fun y η => by
      rw [wpR_bind]
      cases h : g x y η with
      | none => exact Iff.rfl
      | some p =>
        obtain ⟨z, η2⟩ := p
        cases z with
        | bl b =>
          cases b
          · exact Iff.rfl
          · show wpR ((fc ρ η2).bind fun u η => liftO (g' y u η)) QD E ↔ _
            rw [wpR_bind]; simp only [wpR_lift]; exact Iff.rfl
        | _ => exact Iff.rfl
    simp only [e2]
  exact wpR_congr e
/-! tests -/
@[simp] theorem w_tru : wpR (tru f ρ η) QB E ↔ wpR (f ρ η) (fun d η => wpO (truD d η) fun b => QB b η) E := by
  unfold tru; rw [wpR_bind]
  have e : ∀ (d : D) (η : Store), wpR (match truD d η with | some b => R.ok b η | none => R.no) QB E ↔ wpO (truD d η) fun b => QB b η := fun d η => by
    cases truD d η <;> exact Iff.rfl
  exact wpR_congr e
def isB (d : D) : Option Bool := match d with
  | .bl i => some i
  | _ => none
@[simp] theorem isB_bl {i : Bool} : isB (.bl i) = some i := rfl
@[simp] theorem w_tst : wpR (tst f ρ η) QB E ↔ wpR (f ρ η) (fun d η => wpO (isB d) fun b => QB b η) E := by
  unfold tst; rw [wpR_bind]
  have e : ∀ (d : D) (η : Store), wpR (match d with | .bl b => R.ok b η | _ => R.no) QB E ↔ wpO (isB d) fun b => QB b η := fun d η => by
    cases d <;> exact Iff.rfl
  exact wpR_congr e
@[simp] theorem w_andT : wpR (andT s t ρ η) QB E ↔ wpR (s ρ η) (fun b η => if b = true then wpR (t ρ η) QB E else QB false η) E := by
  unfold andT; rw [wpR_bind]; simp only [wpR_ite, wpR_ok]
@[simp] theorem w_orT : wpR (orT s t ρ η) QB E ↔ wpR (s ρ η) (fun b η => if b = true then QB true η else wpR (t ρ η) QB E) E := by
  unfold orT; rw [wpR_bind]; simp only [wpR_ite, wpR_ok]
@[simp] theorem w_notT : wpR (notT s ρ η) QB E ↔ wpR (s ρ η) (fun b η => QB (!b) η) E := by
  unfold notT; rw [wpR_bind]; simp only [wpR_ok]
@[simp] theorem w_yes : wpR (yes ρ η) QB E ↔ QB true η := Iff.rfl
@[simp] theorem w_andE : wpR (andE fa fb ρ η) QD E ↔ wpR (fa ρ η) (fun d η => wpO (truD d η) fun b => if b = true then wpR (fb ρ η) QD E else QD d η) E := by
  unfold andE; rw [wpR_bind]
  have e : ∀ (d : D) (η : Store), wpR (match truD d η with | some true => fb ρ η | some false => R.ok d η | none => R.no) QD E ↔ wpO (truD d η) fun b => if b = true then wpR (fb ρ η) QD E else QD d η := fun d η => by
    cases h : truD d η with
    | none => exact Iff.rfl
    | some b => cases b <;> simp
  exact wpR_congr e
@[simp] theorem w_orE : wpR (orE fa fb ρ η) QD E ↔ wpR (fa ρ η) (fun d η => wpO (truD d η) fun b => if b = true then QD d η else wpR (fb ρ η) QD E) E := by
  unfold orE; rw [wpR_bind]
  have e : ∀ (d : D) (η : Store), wpR (match truD d η with | some true => R.ok d η | some false => fb ρ η | none => R.no) QD E ↔ wpO (truD d η) fun b => if b = true then QD d η else wpR (fb ρ η) QD E := fun d η => by
    cases h : truD d η with
    | none => exact Iff.rfl
    | some b => cases b <;> simp
  exact wpR_congr e
@[simp] theorem w_notE : wpR (notE fa ρ η) QD E ↔ wpR (fa ρ η) (fun d η => wpO (truD d η) fun b => QD (.bl (!b)) η) E := by
  unfold notE; rw [wpR_bind]
  have e : ∀ (d : D) (η : Store), wpR (match truD d η with | some b => R.ok (D.bl (!b)) η | none => R.no) QD E ↔ wpO (truD d η) fun b => QD (.bl (!b)) η := fun d η => by
    cases h : truD d η <;> exact Iff.rfl
  exact wpR_congr e
@[simp] theorem w_ifE : wpR (ifE s fa fb ρ η) QD E ↔ wpR (s ρ η) (fun b η => if b = true then wpR (fa ρ η) QD E else wpR (fb ρ η) QD E) E := by
  unfold ifE; rw [wpR_bind]; simp only [wpR_ite]
/-! statements -/
variable {fs gs : FS}
@[simp] theorem w_nil : wpS (sNil ρ η) P ↔ P.nx ρ η := Iff.rfl
@[simp] theorem w_brk : wpS (sBrk ρ η) P ↔ P.bk ρ η := Iff.rfl
@[simp] theorem w_cnt : wpS (sCnt ρ η) P ↔ P.ct ρ η := Iff.rfl
@[simp] theorem w_retN : wpS (sRetN ρ η) P ↔ P.rt .non η := Iff.rfl
@[simp] theorem w_nxS : wpS (.nx ρ η) P ↔ P.nx ρ η := Iff.rfl
@[simp] theorem w_retS {d : D} : wpS (.ret d η) P ↔ P.rt d η := Iff.rfl
@[simp] theorem w_brkS : wpS (.brk ρ η) P ↔ P.bk ρ η := Iff.rfl
@[simp] theorem w_cntS : wpS (.cnt ρ η) P ↔ P.ct ρ η := Iff.rfl
@[simp] theorem w_excS : wpS (.exc x ρ η) P ↔ P.ex x ρ η := Iff.rfl
@[simp] theorem w_noS : wpS .no P ↔ False := Iff.rfl
@[simp] theorem w_seq : wpS (sSeq fs gs ρ η) P ↔ wpS (fs ρ η) ⟨fun ρ η => wpS (gs ρ η) P, P.rt, P.bk, P.ct, P.ex⟩ := by
  unfold sSeq
  cases h : fs ρ η <;> exact Iff.rfl
@[simp] theorem w_exp : wpS (sExp f ρ η) P ↔ wpR (f ρ η) (fun _ η => P.nx ρ η) (fun x η => P.ex x ρ η) := by
  unfold sExp; rw [wpS_bindS]; exact Iff.rfl
@[simp] theorem w_ret : wpS (sRet f ρ η) P ↔ wpR (f ρ η) (fun d η => P.rt d η) (fun x η => P.ex x ρ η) := by
  unfold sRet; rw [wpS_bindS]; exact Iff.rfl
theorem wpS_ite {c : Prop} [Decidable c] {r r' : RS} : wpS (if c then r else r') P ↔ if c then wpS r P else wpS r' P := by split <;> exact Iff.rfl
@[simp] theorem w_sIf : wpS (sIf s fs gs ρ η) P ↔ wpR (s ρ η) (fun b η => if b = true then wpS (fs ρ η) P else wpS (gs ρ η) P) (fun x η => P.ex x ρ η) := by
  unfold sIf; rw [wpS_bindS]; simp only [wpS_ite]
@[simp] theorem w_asg {b : TGt} : wpS (sAsg f b ρ η) P ↔ wpR (f ρ η) (fun d η => wpO (b d ρ) fun ρ => P.nx ρ η) (fun x η => P.ex x ρ η) := by
  unfold sAsg; rw [wpS_bindS]
  have e : ∀ (d : D) (η : Store), wpS (match b d ρ with | some ρ => RS.nx ρ η | none => .no) P ↔ wpO (b d ρ) fun ρ => P.nx ρ η := fun d η => by
    cases b d ρ <;> exact Iff.rfl
  exact wpR_congr e
@[simp] theorem w_par {i j : Nat} : wpS (sPar i j fa fb ρ η) P ↔ wpR (fa ρ η) (fun x η => wpR (fb ρ η) (fun y η => P.nx ((ρ.set i (some x)).set j (some y)) η) (fun x η => P.ex x ρ η)) (fun x η => P.ex x ρ η) := by
  unfold sPar; rw [wpS_bindS]; simp only [wpS_bindS, w_nxS]
@[simp] theorem w_setIx {g : GSet} {fo fi : FE} : wpS (sSetIx g f fo fi ρ η) P ↔ wpR (f ρ η) (fun v η => wpR (fo ρ η) (fun o η => wpR (fi ρ η) (fun i η => wpO (g o i v η) fun η => P.nx ρ η) (fun x η => P.ex x ρ η)) (fun x η => P.ex x ρ η)) (fun x η => P.ex x ρ η) := by
  unfold sSetIx; rw [wpS_bindS]
  have e : ∀ (v o i : D) (η : Store), wpS (match g o i v η with | some η => RS.nx ρ η | none => .no) P ↔ wpO (g o i v η) fun η => P.nx ρ η := fun v o i η => by
    cases g o i v η <;> exact Iff.rfl
  refine wpR_congr fun a η => ?_
  rw [wpS_bindS]
  refine wpR_congr fun a2 η => ?_
  rw [wpS_bindS]
  exact wpR_congr fun a3 η => e a a2 a3 η
@[simp] theorem b_bN {i : Nat} {d : D} : bN i d ρ = some (ρ.set i (some d)) := rfl
@[simp] theorem b_bTs_nil : bTs [] [] ρ = some ρ := rfl
@[simp] theorem b_bTs_cons {b : TGt} {bs : List TGt} {d : D} {ds : List D} : bTs (b :: bs) (d :: ds) ρ = (b d ρ).bind (bTs bs ds) := by
  show (match b d ρ with | some ρ => bTs bs ds ρ | none => none) = _
  cases b d ρ <;> rfl
@[simp] theorem b_bT_tup {bs : List TGt} {ds : List D} : bT bs (.tup ds) ρ = bTs bs ds ρ := rfl
@[simp] theorem b_bT_lst {bs : List TGt} {ds : List D} : bT bs (.lst ds) ρ = bTs bs ds ρ := rfl
/-- a def -/
theorem w_runF {n : Nat} {b : FS} {ds : List D} : wpR (runF n b ds η) QD E ↔ wpS (b (ds.map some ++ List.replicate (n - ds.length) none) η) ⟨fun _ η => QD .non η, QD, fun _ _ => False, fun _ _ => False, fun x _ η => E x η⟩ := by
  unfold runF
  cases b (ds.map some ++ List.replicate (n - ds.length) none) η <;> exact Iff.rfl
/-! loops -/
variable {b : TGt} {body : FS}
theorem w_forL (I : Nat → Env → Store → Prop) : ∀ (xs : List D) (i : Nat) {ρ : Env} {η : Store}, I i ρ η →
    (∀ j x, xs[j]? = some x → ∀ ρ η, I (i + j) ρ η → wpO (b x ρ) fun ρ => wpS (body ρ η) ⟨I (i + j + 1), P.rt, P.nx, I (i + j + 1), P.ex⟩) →
    (∀ ρ η, I (i + xs.length) ρ η → P.nx ρ η) → wpS (forL b body xs ρ η) P
  | [], i, ρ, η, h0, _, h2 => h2 ρ η h0
  | x :: xs, i, ρ, η, h0, h1, h2 => by
    have h := h1 0 x rfl ρ η h0
    unfold forL
    cases eb : b x ρ with
    | none => rw [eb] at h; exact h.elim
    | some ρ1 =>
      rw [eb] at h
      replace h : wpS (body ρ1 η) _ := h
      have st : ∀ j y, xs[j]? = some y → ∀ ρ η, I (i + 1 + j) ρ η → wpO (b y ρ) fun ρ => wpS (body ρ η) ⟨I (i + 1 + j + 1), P.rt, P.nx, I (i + 1 + j + 1), P.ex⟩ := fun j y ey ρ η q => by
        have e : i + (j + 1) = i + 1 + j := by omega
        have := h1 (j + 1) y (by simpa using ey) ρ η (by rw [e]; exact q)
        rw [e] at this
        exact this
      have el : i + (x :: xs).length = i + 1 + xs.length := by simp; omega
      have go : ∀ ρ2 η2, I (i + 0 + 1) ρ2 η2 → wpS (forL b body xs ρ2 η2) P := fun ρ2 η2 q =>
        w_forL I xs (i + 1) q st (fun ρ η q => h2 ρ η (by rw [el]; exact q))
      dsimp only
      cases er : body ρ1 η with
      | nx ρ2 η2 => rw [er] at h; exact go _ _ h
      | cnt ρ2 η2 => rw [er] at h; exact go _ _ h
      | brk ρ2 η2 => rw [er] at h; exact h
      | ret d η2 => rw [er] at h; exact h
      | exc x ρ2 η2 => rw [er] at h; exact h
      | no => rw [er] at h; exact h
theorem w_for {N : Nat} {fi : FI} : wpS (sFor N fi b body ρ η) P ↔ wpR (fi ρ η) (fun src η => match src with
    | .val xs => wpS (forL b body xs ρ η) P
    | .dyn f => wpS (forO b body f N 0 ρ η) P) (fun x η => P.ex x ρ η) := by
  unfold sFor; rw [wpS_bindS]
  have e : ∀ (src : Src) (η : Store), wpS (match src with | .val xs => forL b body xs ρ η | .dyn f => forO b body f N 0 ρ η) P ↔ (match src with
    | .val xs => wpS (forL b body xs ρ η) P
    | .dyn f => wpS (forO b body f N 0 ρ η) P) := fun src η => by cases src <;> exact Iff.rfl
  exact wpR_congr e
theorem w_whl (I : Nat → Env → Store → Prop) (h : ∀ m ρ η, I m ρ η → wpR (s ρ η) (fun b η => if b = true then ∃ m', m = m' + 1 ∧ wpS (body ρ η) ⟨I m', P.rt, P.nx, I m', P.ex⟩ else P.nx ρ η) (fun x η => P.ex x ρ η)) :
    ∀ (m N : Nat) {ρ : Env} {η : Store}, I m ρ η → m < N → wpS (whl s body N ρ η) P
  | _, 0, ρ, η, _, hN => by omega
  | m, N + 1, ρ, η, h0, hN => by
    unfold whl
    rw [wpS_bindS]
    refine wpR_imp (h m ρ η h0) (fun bb η2 q => ?_) (fun _ _ q => q)
    split
    · rename_i hb
      rw [if_pos hb] at q
      obtain ⟨m', em, q⟩ := q
      cases er : body ρ η2 with
      | nx ρ2 η2 => rw [er] at q; exact w_whl I h m' N q (by omega)
      | cnt ρ2 η2 => rw [er] at q; exact w_whl I h m' N q (by omega)
      | brk ρ2 η2 => rw [er] at q; exact q
      | ret d η2 => rw [er] at q; exact q
      | exc x ρ2 η2 => rw [er] at q; exact q
      | no => rw [er] at q; exact q
    · rename_i hb
      rw [if_neg hb] at q
      exact q
/-! comprehensions -/
theorem w_lc {N : Nat} {vs : List Nat} {fi : FI} {te : FE} : wpR (lc N vs fi b s te ρ η) QD E ↔ wpR (fi ρ η) (fun src η => wpR (nx (cmpS N src b s te (wipeD ρ vs) η)) (fun ys η => ys.length ≤ sizeLine ∧ QD (.lst ys) η) E) E := by
  unfold lc; rw [wpR_bind]
  have e : ∀ (ys : List D) (η : Store), wpR (if ys.length ≤ sizeLine then R.ok (D.lst ys) η else .no) QD E ↔ ys.length ≤ sizeLine ∧ QD (.lst ys) η := fun ds η => by
    by_cases h : ds.length ≤ sizeLine
    · rw [if_pos h]; simp [h]
    · rw [if_neg h]; simp [h]
  refine wpR_congr fun a η => ?_
  rw [wpR_bind]; exact wpR_congr e
theorem w_lcO {N : Nat} {vs : List Nat} {fi : FI} {te : FE} : wpR (lcO N vs fi b s te ρ η) QD E ↔ wpR (fi ρ η) (fun src η => wpR (nx (cmpS N src b s te (wipeD ρ vs) η)) (fun ys η => ys.length ≤ sizeLine ∧ QD (.obj η.length) (η ++ [.lst ys])) E) E := by
  unfold lcO; rw [wpR_bind]
  have e : ∀ (ys : List D) (η : Store), wpR (if ys.length ≤ sizeLine then R.ok (D.obj η.length) (η ++ [.lst ys]) else .no) QD E ↔ ys.length ≤ sizeLine ∧ QD (.obj η.length) (η ++ [.lst ys]) := fun ds η => by
    by_cases h : ds.length ≤ sizeLine
    · rw [if_pos h]; simp [h]
    · rw [if_neg h]; simp [h]
  refine wpR_congr fun a η => ?_
  rw [wpR_bind]; exact wpR_congr e
theorem w_nx {r : R α} : wpR (nx r) Q E ↔ wpR r Q (fun _ _ => False) := by cases r <;> exact Iff.rfl
/-- a comprehension, by an invariant: the turn, what is made, the store -/
theorem w_cmp {te : FE} {E : Ex → Store → Prop} (I : Nat → List D → Store → Prop) : ∀ (xs : List D) (i : Nat) (acc : List D) {η : Store} {QL : List D → Store → Prop}, I i acc η →
    (∀ j x, xs[j]? = some x → ∀ acc η, I (i + j) acc η → wpO (b x ρ) fun ρ => wpR (s ρ η) (fun k η => if k = true then wpR (te ρ η) (fun y η => I (i + j + 1) (acc ++ [y]) η) E else I (i + j + 1) acc η) E) →
    (∀ ys η, I (i + xs.length) (acc ++ ys) η → QL ys η) → wpR (cmp b s te ρ xs η) QL E
  | [], i, acc, η, _, h0, _, h2 => h2 [] η (by simpa using h0)
  | x :: xs, i, acc, η, _, h0, h1, h2 => by
    have h := h1 0 x rfl acc η h0
    unfold cmp
    cases eb : b x ρ with
    | none => rw [eb] at h; exact h.elim
    | some ρ1 =>
      rw [eb] at h
      replace h : wpR (s ρ1 η) _ _ := h
      dsimp only
      rw [wpR_bind]
      have st : ∀ j y, xs[j]? = some y → ∀ acc η, I (i + 1 + j) acc η → wpO (b y ρ) fun ρ => wpR (s ρ η) (fun k η => if k = true then wpR (te ρ η) (fun y η => I (i + 1 + j + 1) (acc ++ [y]) η) E else I (i + 1 + j + 1) acc η) E := fun j y ey acc η q => by
        have e : i + (j + 1) = i + 1 + j := by omega
        have := h1 (j + 1) y (by simpa using ey) acc η (by rw [e]; exact q)
        rw [e] at this
        exact this
      have e : i + (x :: xs).length = i + 1 + xs.length := by simp; omega
      refine wpR_imp h (fun k η2 q => ?_) (fun _ _ q => q)
      rw [wpR_ite]
      split
      · rename_i hk
        rw [if_pos hk] at q
        rw [wpR_bind]
        refine wpR_imp q (fun y η3 q => ?_) (fun _ _ q => q)
        rw [wpR_bind]
        refine w_cmp I xs (i + 1) (acc ++ [y]) q st (fun ys η q => ?_)
        refine h2 (y :: ys) η ?_
        rw [e]
        simpa using q
      · rename_i hk
        rw [if_neg hk] at q
        refine w_cmp I xs (i + 1) acc q st (fun ys η q => h2 ys η ?_)
        rw [e]; exact q
/-- .. that changes nothing: an item each -/
theorem cmp_map {te : FE} (g : D → D) : ∀ (xs : List D), (∀ x ∈ xs, ∃ ρ1, b x ρ = some ρ1 ∧ s ρ1 η = .ok true η ∧ te ρ1 η = .ok (g x) η) → cmp b s te ρ xs η = .ok (xs.map g) η
  | [], _ => rfl
  | x :: xs, h => by
    obtain ⟨ρ1, e1, e2, e3⟩ := h x List.mem_cons_self
    have ih := cmp_map g xs fun y hy => h y (List.mem_cons_of_mem _ hy)
    unfold cmp
    rw [e1]; dsimp only
    rw [e2, R.bind_ok, if_pos rfl, e3, R.bind_ok, ih, R.bind_ok]; rfl
/-- .. with a test -/
theorem cmp_fmap {te : FE} (p : D → Bool) (g : D → D) : ∀ (xs : List D), (∀ x ∈ xs, ∃ ρ1, b x ρ = some ρ1 ∧ s ρ1 η = .ok (p x) η ∧ (p x = true → te ρ1 η = .ok (g x) η)) → cmp b s te ρ xs η = .ok ((xs.filter p).map g) η
  | [], _ => rfl
  | x :: xs, h => by
    obtain ⟨ρ1, e1, e2, e3⟩ := h x List.mem_cons_self
    have ih := cmp_fmap p g xs fun y hy => h y (List.mem_cons_of_mem _ hy)
    unfold cmp
    rw [e1]; dsimp only
    rw [e2, R.bind_ok]
    cases hp : p x with
    | true => rw [if_pos rfl, e3 hp, R.bind_ok, ih, R.bind_ok, List.filter_cons_of_pos hp]; rfl
    | false => rw [if_neg (by simp), ih, List.filter_cons_of_neg (by simp [hp])]
end
end Dn
/-! Dn part 14: == over plain data; the operations at hand. -/
namespace Dn
open PySem PySem.Spec PyProof.Rows L2
mutual
/-- plain data of a depth -/
def D.pl : Nat → D → Bool
  | _, .non => true
  | _, .bl _ => true
  | _, .int _ => true
  | _, .str x => PyData.canLay0 (.str x)
  | n + 1, .tup xs => D.pls n xs
  | n + 1, .lst xs => D.pls n xs
  | _, _ => false
def D.pls : Nat → List D → Bool
  | _, [] => true
  | n, x :: xs => D.pl n x && D.pls n xs
end
mutual
/-- == of plain data -/
def D.eq : D → D → Bool
  | .non, .non => true
  | .bl a, .bl b => a == b
  | .bl a, .int j => (if a then 1 else 0) == j
  | .int i, .bl b => i == (if b then 1 else 0)
  | .int i, .int j => i == j
  | .str x, .str y => x == y
  | .tup xs, .tup ys => D.eqs xs ys
  | .lst xs, .lst ys => D.eqs xs ys
  | _, _ => false
def D.eqs : List D → List D → Bool
  | [], [] => true
  | x :: xs, y :: ys => D.eq x y && D.eqs xs ys
  | _, _ => false
end
mutual
theorem pl_pd0 : ∀ (n : Nat) (d : D), D.pl n d = true → ∃ q, pd0 d = some q ∧ q.canLay0 = true ∧ q.depth ≤ n
  | _, .non, _ => ⟨_, rfl, rfl, Nat.zero_le _⟩
  | _, .bl _, _ => ⟨_, rfl, rfl, Nat.zero_le _⟩
  | _, .int _, _ => ⟨_, rfl, rfl, Nat.zero_le _⟩
  | _, .str x, h => ⟨_, rfl, by simpa [D.pl] using h, Nat.zero_le _⟩
  | n + 1, .tup xs, h => by
    obtain ⟨qs, e, c, d⟩ := pls_pd0 n xs h
    exact ⟨.tuple qs, by show (pds0 xs).map _ = _; rw [e]; rfl, c, Nat.succ_le_succ d⟩
  | n + 1, .lst xs, h => by
    obtain ⟨qs, e, c, d⟩ := pls_pd0 n xs h
    exact ⟨.list qs, by show (pds0 xs).map _ = _; rw [e]; rfl, c, Nat.succ_le_succ d⟩
  | 0, .tup xs, h => by simp [D.pl] at h
  | 0, .lst xs, h => by simp [D.pl] at h
  | _, .scr xs, h => by simp [D.pl] at h
  | _, .obj xs, h => by simp [D.pl] at h
  | _, .gl xs, h => by simp [D.pl] at h
  | _, .ty xs, h => by simp [D.pl] at h
theorem pls_pd0 : ∀ (n : Nat) (ds : List D), D.pls n ds = true → ∃ qs, pds0 ds = some qs ∧ PyData.canLayAll0 qs = true ∧ PyData.depthAll qs ≤ n
  | _, [], _ => ⟨[], rfl, rfl, Nat.zero_le _⟩
  | n, x :: xs, h => by
    have h' := Bool.and_eq_true_iff.mp (show (D.pl n x && D.pls n xs) = true from h)
    obtain ⟨q, e, c, d⟩ := pl_pd0 n x h'.1
    obtain ⟨qs, e2, c2, d2⟩ := pls_pd0 n xs h'.2
    refine ⟨q :: qs, ?_, ?_, Nat.max_le.mpr ⟨d, d2⟩⟩
    · unfold pds0; rw [e, e2]
    · exact Bool.and_eq_true_iff.mpr ⟨c, c2⟩
end
theorem pds0_cons {x : D} {xs : List D} {qs : List PyData} (h : pds0 (x :: xs) = some qs) : ∃ p ps, pd0 x = some p ∧ pds0 xs = some ps ∧ qs = p :: ps := by
  unfold pds0 at h
  split at h
  · rename_i d ds e1 e2
    cases h
    exact ⟨d, ds, e1, e2, rfl⟩
  · cases h
theorem pd0_tup {xs : List D} {q : PyData} (h : pd0 (.tup xs) = some q) : ∃ ps, pds0 xs = some ps ∧ q = .tuple ps := by
  have h' : (pds0 xs).map PyData.tuple = some q := h
  cases e : pds0 xs with
  | none => rw [e] at h'; cases h'
  | some ps => rw [e] at h'; cases h'; exact ⟨ps, rfl, rfl⟩
theorem pd0_lst {xs : List D} {q : PyData} (h : pd0 (.lst xs) = some q) : ∃ ps, pds0 xs = some ps ∧ q = .list ps := by
  have h' : (pds0 xs).map PyData.list = some q := h
  cases e : pds0 xs with
  | none => rw [e] at h'; cases h'
  | some ps => rw [e] at h'; cases h'; exact ⟨ps, rfl, rfl⟩
theorem pds0_nil {qs : List PyData} (h : pds0 [] = some qs) : qs = [] := by
  have h' : some ([] : List PyData) = some qs := h
  cases h'; rfl
mutual
theorem eqv_ok : ∀ (x y : D) (p q : PyData), pd0 x = some p → pd0 y = some q → PyData.eqv p q = D.eq x y
  | .tup xs, y, p, q, h1, h2 => by
    obtain ⟨ps, e, rfl⟩ := pd0_tup h1
    cases y with
    | tup ys => obtain ⟨qs, e2, rfl⟩ := pd0_tup h2; exact eqvs_ok xs ys ps qs e e2
    | lst ys => obtain ⟨qs, e2, rfl⟩ := pd0_lst h2; simp [PyData.eqv, D.eq]
    | _ => cases h2 <;> simp [PyData.eqv, D.eq]
  | .lst xs, y, p, q, h1, h2 => by
    obtain ⟨ps, e, rfl⟩ := pd0_lst h1
    cases y with
    | tup ys => obtain ⟨qs, e2, rfl⟩ := pd0_tup h2; simp [PyData.eqv, D.eq]
    | lst ys => obtain ⟨qs, e2, rfl⟩ := pd0_lst h2; exact eqvs_ok xs ys ps qs e e2
    | _ => cases h2 <;> simp [PyData.eqv, D.eq]
  | .non, y, p, q, h1, h2 => by
    cases h1
    cases y with
    | tup ys => obtain ⟨qs, e2, rfl⟩ := pd0_tup h2; simp [PyData.eqv, D.eq]
    | lst ys => obtain ⟨qs, e2, rfl⟩ := pd0_lst h2; simp [PyData.eqv, D.eq]
    | _ => cases h2 <;> simp [PyData.eqv, D.eq]
  | .bl a, y, p, q, h1, h2 => by
    cases h1
    cases y with
    | tup ys => obtain ⟨qs, e2, rfl⟩ := pd0_tup h2; simp [PyData.eqv, D.eq]
    | lst ys => obtain ⟨qs, e2, rfl⟩ := pd0_lst h2; simp [PyData.eqv, D.eq]
    | _ => cases h2 <;> simp [PyData.eqv, D.eq]
  | .int a, y, p, q, h1, h2 => by
    cases h1
    cases y with
    | tup ys => obtain ⟨qs, e2, rfl⟩ := pd0_tup h2; simp [PyData.eqv, D.eq]
    | lst ys => obtain ⟨qs, e2, rfl⟩ := pd0_lst h2; simp [PyData.eqv, D.eq]
    | _ => cases h2 <;> simp [PyData.eqv, D.eq]
  | .str a, y, p, q, h1, h2 => by
    cases h1
    cases y with
    | tup ys => obtain ⟨qs, e2, rfl⟩ := pd0_tup h2; simp [PyData.eqv, D.eq]
    | lst ys => obtain ⟨qs, e2, rfl⟩ := pd0_lst h2; simp [PyData.eqv, D.eq]
    | _ => cases h2 <;> simp [PyData.eqv, D.eq]
  | .scr xs, y, p, q, h1, h2 => by cases h1
  | .obj xs, y, p, q, h1, h2 => by cases h1
  | .gl xs, y, p, q, h1, h2 => by cases h1
  | .ty xs, y, p, q, h1, h2 => by cases h1
theorem eqvs_ok : ∀ (xs ys : List D) (ps qs : List PyData), pds0 xs = some ps → pds0 ys = some qs → PyData.eqvAll ps qs = D.eqs xs ys
  | [], [], ps, qs, h1, h2 => by
    obtain rfl := pds0_nil h1; obtain rfl := pds0_nil h2
    simp [PyData.eqvAll, D.eqs]
  | [], y :: ys, ps, qs, h1, h2 => by
    obtain rfl := pds0_nil h1
    obtain ⟨q, qs', e3, e4, rfl⟩ := pds0_cons h2
    simp [PyData.eqvAll, D.eqs]
  | x :: xs, [], ps, qs, h1, h2 => by
    obtain rfl := pds0_nil h2
    obtain ⟨q, qs', e3, e4, rfl⟩ := pds0_cons h1
    simp [PyData.eqvAll, D.eqs]
  | x :: xs, y :: ys, ps, qs, h1, h2 => by
    obtain ⟨p, ps', e1, e2, rfl⟩ := pds0_cons h1
    obtain ⟨q, qs', e3, e4, rfl⟩ := pds0_cons h2
    have i1 := eqv_ok x y p q e1 e3
    have i2 := eqvs_ok xs ys ps' qs' e2 e4
    simp only [PyData.eqvAll, D.eqs, i1, i2]
end
/-- the value behind a thing, for == -/
def D.vw (η : Store) : D → D
  | .obj i => match η[i]? with
    | some (.lst xs) => .lst xs
    | _ => .obj i
  | d => d
theorem pd_vw (d : D) (η : Store) : pd d η = pd0 (d.vw η) := by
  cases d with
  | obj i =>
    unfold pd D.vw
    dsimp only
    cases e : η[i]? with
    | none => rfl
    | some o => cases o <;> rfl
  | _ => rfl
theorem eqD_pl {x y : D} {η : Store} (hx : D.pl 60 (x.vw η) = true) (hy : D.pl 60 (y.vw η) = true) : eqD x y η = some (.bl (D.eq (x.vw η) (y.vw η)), η) := by
  obtain ⟨p, e1, c1, d1⟩ := pl_pd0 _ _ hx
  obtain ⟨q, e2, c2, d2⟩ := pl_pd0 _ _ hy
  unfold eqD
  rw [pd_vw, pd_vw, e1, e2]
  dsimp only
  have h1 : plainQ p := Bool.and_eq_true_iff.mpr ⟨c1, decide_eq_true (by omega)⟩
  have h2 : plainQ q := Bool.and_eq_true_iff.mpr ⟨c2, decide_eq_true (by omega)⟩
  rw [if_pos ⟨h1, h2⟩, eqv_ok _ _ _ _ e1 e2]
theorem neD_pl {x y : D} {η : Store} (hx : D.pl 60 (x.vw η) = true) (hy : D.pl 60 (y.vw η) = true) : neD x y η = some (.bl (!D.eq (x.vw η) (y.vw η)), η) := by
  obtain ⟨p, e1, c1, d1⟩ := pl_pd0 _ _ hx
  obtain ⟨q, e2, c2, d2⟩ := pl_pd0 _ _ hy
  unfold neD
  rw [pd_vw, pd_vw, e1, e2]
  dsimp only
  have h1 : plainQ p := Bool.and_eq_true_iff.mpr ⟨c1, decide_eq_true (by omega)⟩
  have h2 : plainQ q := Bool.and_eq_true_iff.mpr ⟨c2, decide_eq_true (by omega)⟩
  rw [if_pos ⟨h1, h2⟩, eqv_ok _ _ _ _ e1 e2]
section
variable {η : Store} {xs ys : List D} {i j : Int} {b : Bool}
@[simp] theorem eqD_int : eqD (.int i) (.int j) η = some (.bl (decide (i = j)), η) := by
  rw [eqD_pl (by rfl) (by rfl)]; rfl
@[simp] theorem neD_int : neD (.int i) (.int j) η = some (.bl (!decide (i = j)), η) := by
  rw [neD_pl (by rfl) (by rfl)]; rfl
/-! the operations on what is known -/
@[simp] theorem addD_int : addD (.int i) (.int j) η = some (.int (i + j), η) := rfl
@[simp] theorem addD_tup : addD (.tup xs) (.tup ys) η = if xs.length + ys.length ≤ sizeLine then some (.tup (xs ++ ys), η) else none := rfl
@[simp] theorem addD_lst_lst : addD (.lst xs) (.lst ys) η = if xs.length + ys.length ≤ sizeLine then some (.lst (xs ++ ys), η) else none := rfl
@[simp] theorem subD_int : subD (.int i) (.int j) η = some (.int (i - j), η) := rfl
theorem mulD_int (h : mulOk i j) : mulD (.int i) (.int j) η = some (.int (i * j), η) := by unfold mulD; exact if_pos h
theorem mulD_l (h : -(2 ^ 64) < i) (h2 : i < 2 ^ 64) : mulD (.int i) (.int j) η = some (.int (i * j), η) := mulD_int (.inl (.inl ⟨h, h2⟩))
theorem mulD_r (h : -(2 ^ 64) < j) (h2 : j < 2 ^ 64) : mulD (.int i) (.int j) η = some (.int (i * j), η) := mulD_int (.inl (.inr ⟨h, h2⟩))
theorem fdivD_int (h : 0 < j) (h2 : j < 1073741824) : fdivD (.int i) (.int j) η = some (.int (i / j), η) := by unfold fdivD; exact if_pos ⟨h, .inl h2⟩
theorem modD_int (h : 0 < j) : modD (.int i) (.int j) η = some (.int (i % j), η) := by unfold modD; exact if_pos h
@[simp] theorem negD_int : negD (.int i) η = some (.int (-i), η) := rfl
@[simp] theorem cmpI_int {p : Int → Int → Bool} : cmpI p (.int i) (.int j) η = some (.bl (p i j), η) := rfl
@[simp] theorem isD_non {x : D} : isD x .non η = some (.bl (isNon x), η) := rfl
@[simp] theorem isD_bl {a b : Bool} : isD (.bl a) (.bl b) η = some (.bl (decide (a = b)), η) := rfl
@[simp] theorem isNotD_non {x : D} : isNotD x .non η = some (.bl (!isNon x), η) := rfl
@[simp] theorem isNotD_bl {a b : Bool} : isNotD (.bl a) (.bl b) η = some (.bl (!decide (a = b)), η) := rfl
@[simp] theorem isNon_int : isNon (.int i) = false := rfl
@[simp] theorem isNon_non : isNon .non = true := rfl
@[simp] theorem isNon_tup : isNon (.tup xs) = false := rfl
@[simp] theorem isNon_lst : isNon (.lst xs) = false := rfl
@[simp] theorem isNon_bl : isNon (.bl b) = false := rfl
@[simp] theorem isNon_str {x : Str} : isNon (.str x) = false := rfl
@[simp] theorem truD_bl : truD (.bl b) η = some b := rfl
@[simp] theorem truD_int : truD (.int i) η = some (i != 0) := rfl
@[simp] theorem truD_non : truD .non η = some false := rfl
@[simp] theorem truD_lst : truD (.lst xs) η = some (!xs.isEmpty) := rfl
@[simp] theorem truD_tup : truD (.tup xs) η = some (!xs.isEmpty) := rfl
@[simp] theorem lenD_tup : lenD [.tup xs] η = some (.int xs.length, η) := rfl
@[simp] theorem lenD_lst : lenD [.lst xs] η = some (.int xs.length, η) := rfl
@[simp] theorem lenD_scr : lenD [.scr xs] η = some (.int xs.length, η) := rfl
@[simp] theorem absD_int : absD [.int i] η = some (.int (if i < 0 then -i else i), η) := rfl
@[simp] theorem intD_int : intD [.int i] η = some (.int i, η) := rfl
@[simp] theorem max2D_int : max2D [.int i, .int j] η = some (.int (if j > i then j else i), η) := rfl
@[simp] theorem min2D_int : min2D [.int i, .int j] η = some (.int (if j < i then j else i), η) := rfl
@[simp] theorem tupleD_lst : tupleD [.lst xs] η = some (.tup xs, η) := rfl
@[simp] theorem tupleD_tup : tupleD [.tup xs] η = some (.tup xs, η) := rfl
@[simp] theorem listD_tup : listD [.tup xs] η = some (.lst xs, η) := rfl
@[simp] theorem listD_lst : listD [.lst xs] η = some (.lst xs, η) := rfl
@[simp] theorem listD_scr : listD [.scr xs] η = some (.lst xs, η) := rfl
theorem allD_lst : allD [.lst xs] η = (boolsOf xs).map fun bs => (.bl (bs.all id), η) := rfl
theorem anyD_lst : anyD [.lst xs] η = (boolsOf xs).map fun bs => (.bl (bs.any id), η) := rfl
theorem sumD_lst : sumD [.lst xs] η = (intsOf xs).map fun ns => (.int ns.sum, η) := rfl
theorem sumD_tup : sumD [.tup xs] η = (intsOf xs).map fun ns => (.int ns.sum, η) := rfl
@[simp] theorem ixD_tup : ixD (.tup xs) (.int i) η = (atI xs i).map (·, η) := rfl
@[simp] theorem ixD_lst : ixD (.lst xs) (.int i) η = (atI xs i).map (·, η) := rfl
@[simp] theorem slD_tup {lo hi : Option Int} : slD (.tup xs) lo hi η = some (.tup (cutL xs lo hi), η) := rfl
@[simp] theorem slD_lst {lo hi : Option Int} : slD (.lst xs) lo hi η = some (.lst (cutL xs lo hi), η) := rfl
@[simp] theorem wpO_map {α β : Type} {f : α → β} {o : Option α} {Q : β → Prop} : wpO (o.map f) Q ↔ wpO o fun a => Q (f a) := by cases o <;> exact Iff.rfl
@[simp] theorem wpO_bind {α β : Type} {f : α → Option β} {o : Option α} {Q : β → Prop} : wpO (o.bind f) Q ↔ wpO o fun a => wpO (f a) Q := by cases o <;> exact Iff.rfl
theorem wpO_ite {α : Type} {c : Prop} [Decidable c] {a b : Option α} {Q : α → Prop} : wpO (if c then a else b) Q ↔ if c then wpO a Q else wpO b Q := by split <;> exact Iff.rfl
theorem wpO_of {α : Type} {o : Option α} {a : α} {Q : α → Prop} (h : o = some a) (q : Q a) : wpO o Q := by rw [h]; exact q
@[simp] theorem wpO_iteN {α : Type} {c : Prop} [Decidable c] {a : α} {Q : α → Prop} : wpO (if c then some a else none) Q ↔ c ∧ Q a := by by_cases h : c <;> simp [h]
variable {QP : D × Store → Prop}
@[simp] theorem wpO_mulD : wpO (mulD (.int i) (.int j) η) QP ↔ mulOk i j ∧ QP (.int (i * j), η) := by
  by_cases h : mulOk i j
  · rw [mulD_int h]; simp [h]
  · have e : mulD (.int i) (.int j) η = none := by unfold mulD; exact if_neg h
    rw [e]; simp [h]
@[simp] theorem wpO_fdivD : wpO (fdivD (.int i) (.int j) η) QP ↔ divOk j ∧ QP (.int (i / j), η) := by
  by_cases h : divOk j
  · have e : fdivD (.int i) (.int j) η = some (.int (i / j), η) := by unfold fdivD; exact if_pos h
    rw [e]; simp [h]
  · have e : fdivD (.int i) (.int j) η = none := by unfold fdivD; exact if_neg h
    rw [e]; simp [h]
@[simp] theorem wpO_modD : wpO (modD (.int i) (.int j) η) QP ↔ 0 < j ∧ QP (.int (i % j), η) := by
  have e : modD (.int i) (.int j) η = if 0 < j then some (.int (i % j), η) else none := rfl
  rw [e, wpO_iteN]
@[simp] theorem wpO_powD : wpO (powD (.int i) (.int j) η) QP ↔ (0 ≤ j ∧ j ≤ 1000000 ∧ i.natAbs < 2 ^ 64) ∧ QP (.int (i ^ j.toNat), η) := by
  have e : powD (.int i) (.int j) η = if 0 ≤ j ∧ j ≤ 1000000 ∧ i.natAbs < 2 ^ 64 then some (.int (i ^ j.toNat), η) else none := rfl
  rw [e, wpO_iteN]
@[simp] theorem mulOk_r (h : -18446744073709551616 < j) (h2 : j < 18446744073709551616) : mulOk i j := .inl (.inr ⟨h, h2⟩)
@[simp] theorem mulOk_l (h : -18446744073709551616 < i) (h2 : i < 18446744073709551616) : mulOk i j := .inl (.inl ⟨h, h2⟩)
@[simp] theorem divOk_lit (h : 0 < j) (h2 : j < 1073741824) : divOk j := ⟨h, .inl h2⟩
@[simp] theorem szle {n : Nat} (h : n ≤ 1000000) : n ≤ sizeLine := Nat.le_trans h (by decide)
/-- xs[i], i from the front -/
theorem atI_nat {n : Nat} {α : Type} {xs : List α} (h : n < xs.length) : atI xs (n : Int) = some xs[n] := by
  unfold atI ixN
  rw [if_pos (by omega), if_pos (by omega)]
  simp [List.getElem?_eq_getElem h]
theorem atI_pos {α : Type} {xs : List α} {i : Int} (h0 : 0 ≤ i) (h : i < xs.length) : atI xs i = xs[i.toNat]? := by
  unfold atI ixN
  rw [if_pos h0, if_pos h]; rfl
theorem atI_neg {α : Type} {xs : List α} {i : Int} (h0 : i < 0) (h : -(xs.length : Int) ≤ i) : atI xs i = xs[(i + xs.length).toNat]? := by
  unfold atI ixN
  rw [if_neg (by omega), if_pos h]; rfl
@[simp] theorem atI_zero {α : Type} {x : α} {xs : List α} : atI (x :: xs) 0 = some x := by
  unfold atI ixN
  rw [if_pos (by omega), if_pos (by simp)]; rfl
@[simp] theorem atI_one {α : Type} {x y : α} {xs : List α} : atI (x :: y :: xs) 1 = some y := by
  unfold atI ixN
  rw [if_pos (by omega), if_pos (by simp; omega)]; rfl
@[simp] theorem atI_two {α : Type} {x y z : α} {xs : List α} : atI (x :: y :: z :: xs) 2 = some z := by
  unfold atI ixN
  rw [if_pos (by omega), if_pos (by simp; omega)]; rfl
theorem atI_last {α : Type} {xs : List α} (h : xs ≠ []) : atI xs (-1) = some (xs.getLast h) := by
  have hl : 0 < xs.length := List.length_pos_iff.mpr h
  rw [atI_neg (by omega) (by omega)]
  have e : ((-1 : Int) + xs.length).toNat = xs.length - 1 := by omega
  rw [e, List.getLast_eq_getElem, List.getElem?_eq_getElem (by omega)]
@[simp] theorem cutL_from1 : cutL xs (some 1) none = xs.tail := by
  unfold cutL
  rw [HT.sIx_none]
  have e : HT.sIx xs.length 0 (some 1) = min 1 xs.length := HT.sIx_nat _ _ 1
  rw [e]
  cases xs with
  | nil => rfl
  | cons x xs => simp
theorem cutL_last1 : cutL xs (some (-1)) none = xs.drop (xs.length - 1) := by
  unfold cutL
  rw [HT.sIx_none]
  have e : HT.sIx xs.length 0 (some (-1)) = xs.length - 1 := by
    show (if (-1 : Int) < 0 then ((-1 : Int) + (xs.length : Int)).toNat else min (-1 : Int).toNat xs.length) = _
    rw [if_pos (by omega)]; omega
  rw [e, List.take_of_length_le (by simp)]
theorem cutL_but1 : cutL xs none (some (-1)) = xs.take (xs.length - 1) := by
  unfold cutL
  rw [HT.sIx_none]
  have e : HT.sIx xs.length xs.length (some (-1)) = xs.length - 1 := by
    show (if (-1 : Int) < 0 then ((-1 : Int) + (xs.length : Int)).toNat else min (-1 : Int).toNat xs.length) = _
    rw [if_pos (by omega)]; omega
  rw [e]; simp
@[simp] theorem boolsOf_nil : boolsOf [] = some [] := rfl
@[simp] theorem boolsOf_cons {ds : List D} : boolsOf (.bl b :: ds) = (boolsOf ds).map (b :: ·) := rfl
@[simp] theorem tyNm_bool : tyNm "bool" = some .bool := rfl
@[simp] theorem tyNm_int : tyNm "int" = some .int := rfl
@[simp] theorem tyNm_str : tyNm "str" = some .str := rfl
@[simp] theorem tyNm_tuple : tyNm "tuple" = some .tuple := rfl
@[simp] theorem tyNm_list : tyNm "list" = some .list := rfl
@[simp] theorem tyNm_dict : tyNm "dict" = some .dict := rfl
@[simp] theorem tyB_eq (a b : Ty) : tyB a b = (decide (a = b) || (decide (a = .bool) && decide (b = .int))) := by cases a <;> cases b <;> rfl
@[simp] theorem isi_non {n : String} : isiD [.non , .ty n] η = (tyNm n).map fun b => (.bl (tyB .non b), η) := by
  show (match tyNm n with | some b => some (D.bl (tyB .non b), η) | none => none) = _
  cases tyNm n <;> rfl
@[simp] theorem isi_bl {n : String} : isiD [.bl b, .ty n] η = (tyNm n).map fun b => (.bl (tyB .bool b), η) := by
  show (match tyNm n with | some b => some (D.bl (tyB .bool b), η) | none => none) = _
  cases tyNm n <;> rfl
@[simp] theorem isi_int {n : String} : isiD [.int i, .ty n] η = (tyNm n).map fun b => (.bl (tyB .int b), η) := by
  show (match tyNm n with | some b => some (D.bl (tyB .int b), η) | none => none) = _
  cases tyNm n <;> rfl
@[simp] theorem isi_tup {n : String} : isiD [.tup xs, .ty n] η = (tyNm n).map fun b => (.bl (tyB .tuple b), η) := by
  show (match tyNm n with | some b => some (D.bl (tyB .tuple b), η) | none => none) = _
  cases tyNm n <;> rfl
@[simp] theorem isi_lst {n : String} : isiD [.lst xs, .ty n] η = (tyNm n).map fun b => (.bl (tyB .list b), η) := by
  show (match tyNm n with | some b => some (D.bl (tyB .list b), η) | none => none) = _
  cases tyNm n <;> rfl
@[simp] theorem isi_scr {n : String} : isiD [.scr xs, .ty n] η = (tyNm n).map fun b => (.bl (tyB .list b), η) := by
  show (match tyNm n with | some b => some (D.bl (tyB .list b), η) | none => none) = _
  cases tyNm n <;> rfl
@[simp] theorem isi_str {x : Str} {n : String} : isiD [.str x, .ty n] η = (tyNm n).map fun b => (.bl (tyB .str b), η) := by
  show (match tyNm n with | some b => some (D.bl (tyB .str b), η) | none => none) = _
  cases tyNm n <;> rfl
theorem isi_of {d : D} {a b : Ty} {n : String} (h : tyOf d η = some a) (h2 : tyNm n = some b) : isiD [d, .ty n] η = some (.bl (tyB a b), η) := by
  show (match tyOf d η with | some a => (match tyNm n with | some b => some (D.bl (tyB a b), η) | none => none) | none => none) = _
  rw [h]; dsimp only; rw [h2]
/-! iterables -/
variable {ρ : Env} {f : FE} {fA : FA} {QS : Src → Store → Prop} {E : Ex → Store → Prop}
@[simp] theorem w_iVal : wpR (iVal f ρ η) QS E ↔ wpR (f ρ η) (fun d η => wpO (srcOf d η) fun s => QS s η) E := by
  unfold iVal; rw [wpR_bind]
  refine wpR_congr fun d η => ?_
  cases h : srcOf d η <;> exact Iff.rfl
@[simp] theorem srcOf_tup : srcOf (.tup xs) η = some (.val xs) := rfl
@[simp] theorem srcOf_lst : srcOf (.lst xs) η = some (.val xs) := rfl
@[simp] theorem srcOf_scr : srcOf (.scr xs) η = some (.val xs) := rfl
@[simp] theorem sqOf_tup : sqOf (.tup xs) η = some (.val xs) := rfl
@[simp] theorem sqOf_lst : sqOf (.lst xs) η = some (.val xs) := rfl
def twoD (ds : List D) : Option (D × D) := match ds with
  | [x, y] => some (x, y)
  | _ => none
@[simp] theorem twoD_two {x y : D} : twoD [x, y] = some (x, y) := rfl
def oneD (ds : List D) : Option D := match ds with
  | [x] => some x
  | _ => none
@[simp] theorem oneD_one {x : D} : oneD [x] = some x := rfl
@[simp] theorem w_iZip : wpR (iZip fA ρ η) QS E ↔ wpR (fA ρ η) (fun ds η => wpO (twoD ds) fun p => wpO (sqOf p.1 η) fun s1 => wpO (sqOf p.2 η) fun s2 => QS (zipS s1 s2) η) E := by
  unfold iZip; rw [wpR_bind]
  refine wpR_congr fun ds η => ?_
  match ds with
  | [] => exact Iff.rfl
  | [x] => exact Iff.rfl
  | [x, y] =>
    dsimp only [twoD]
    cases h : sqOf x η with
    | none => simp [h]
    | some s1 => cases h2 : sqOf y η <;> simp [h, h2]
  | x :: y :: z :: r => exact Iff.rfl
@[simp] theorem zipS_val : zipS (.val xs) (.val ys) = .val (List.zipWith (fun x y => .tup [x, y]) xs ys) := rfl
@[simp] theorem w_iEnum : wpR (iEnumS fA ρ η) QS E ↔ wpR (fA ρ η) (fun ds η => wpO (oneD ds) fun x => wpO (sqOf x η) fun s1 => QS (enumS s1) η) E := by
  unfold iEnumS; rw [wpR_bind]
  refine wpR_congr fun ds η => ?_
  match ds with
  | [] => exact Iff.rfl
  | [x] =>
    dsimp only [oneD]
    cases h : sqOf x η <;> simp [h]
  | x :: y :: r => exact Iff.rfl
@[simp] theorem enumS_val : enumS (.val xs) = .val (xs.zipIdx.map fun q => .tup [.int (q.2 : Nat), q.1]) := rfl
@[simp] theorem w_iRng1 : wpR (iRng1 fA ρ η) QS E ↔ wpR (fA ρ η) (fun ds η => wpO (oneD ds) fun x => wpO (isI x) fun j => big62 j ∧ QS (.val (rng 0 j.toNat)) η) E := by
  unfold iRng1; rw [wpR_bind]
  refine wpR_congr fun ds η => ?_
  match ds with
  | [] => exact Iff.rfl
  | [x] =>
    cases x with
    | int j =>
      show wpR (if big62 j then _ else _) QS E ↔ _
      by_cases h : big62 j
      · rw [if_pos h]; simp [h]
      · rw [if_neg h]; simp [h]
    | _ => exact Iff.rfl
  | x :: y :: r => cases x <;> exact Iff.rfl
@[simp] theorem w_iRng2 : wpR (iRng2 fA ρ η) QS E ↔ wpR (fA ρ η) (fun ds η => wpO (twoD ds) fun p => wpO (isI p.1) fun i => wpO (isI p.2) fun j => (big62 i ∧ big62 j) ∧ QS (.val (rng i (j - i).toNat)) η) E := by
  unfold iRng2; rw [wpR_bind]
  refine wpR_congr fun ds η => ?_
  match ds with
  | [] => exact Iff.rfl
  | [x] => cases x <;> exact Iff.rfl
  | [x, y] =>
    cases x with
    | int i =>
      cases y with
      | int j =>
        show wpR (if big62 i ∧ big62 j then _ else _) QS E ↔ _
        by_cases h : big62 i ∧ big62 j
        · rw [if_pos h]; simp [h]
        · rw [if_neg h]; simp [h]
      | _ => exact Iff.rfl
    | _ => exact Iff.rfl
  | x :: y :: z :: r => cases x <;> cases y <;> exact Iff.rfl
end
end Dn
/-! Dn part 15: the cup of draws; things told by values. -/
namespace Dn
open PySem PySem.Spec PyProof.Rows L2
section
variable {η η1 η2 η3 : Store} {k i j : Nat} {xs ys : List D} {v : D} {n : Int}
theorem ixD_obj (h : η[k]? = some (.lst xs)) : ixD (.obj k) (.int n) η = (atI xs n).map (·, η) := by
  show (match seqL (.obj k) η with | some xs => (atI xs n).map (·, η) | none => none) = _
  have e : seqL (.obj k) η = some xs := by unfold seqL; dsimp only; rw [h]
  rw [e]
theorem setD_obj (h : η[k]? = some (.lst xs)) {m : Nat} (hm : ixN xs.length n = some m) : setD (.obj k) (.int n) v η = some (η.set k (.lst (xs.set m v))) := by
  unfold setD
  dsimp only
  rw [h]; dsimp only; rw [hm]
theorem lenD_obj (h : η[k]? = some (.lst xs)) : lenD [.obj k] η = some (.int xs.length, η) := by
  show (match seqL (.obj k) η with | some xs => some (D.int xs.length, η) | none => none) = _
  have e : seqL (.obj k) η = some xs := by unfold seqL; dsimp only; rw [h]
  rw [e]
theorem tyM_obj (h : η[k]? = some (.lst xs)) : tyM "list" (.obj k) η = true := by
  unfold tyM; dsimp only; rw [h]; rfl
theorem appD_obj (h : η[k]? = some (.lst xs)) (hl : xs.length < sizeLine) : appD (.obj k) [v] η = some (.non, η.set k (.lst (xs ++ [v]))) := by
  unfold appD
  dsimp only
  have e : objL (.obj k) η = some (k, xs) := by unfold objL; dsimp only; rw [h]
  rw [e]
  exact if_pos hl
theorem tupleD_obj (h : η[k]? = some (.lst xs)) : tupleD [.obj k] η = some (.tup xs, η) := by
  show (match seqL (.obj k) η with | some xs => some (D.tup xs, η) | none => none) = _
  have e : seqL (.obj k) η = some xs := by unfold seqL; dsimp only; rw [h]
  rw [e]
theorem get_set (h : η[k]? = some v') {o : O} : (η.set k o)[k]? = some o := by
  have := (List.getElem?_eq_some_iff.mp h).1
  simp [this]
@[simp] theorem seqL_lst : seqL (.lst xs) η = some xs := rfl
/-- what a trimmed call comes to -/
theorem trim_ok {F : FF} {ds : List D} {d : D} {η l : Store} (h : F ds η = .ok d (η ++ l)) (hl : D.low η.length d = true) : trimF F ds η = .ok d η := by
  have hk : keepS η (η ++ l) := keepS_app _ _
  have hc : cutD η.length (η ++ l) d = some d := by
    cases d with
    | obj i =>
      have hi : i < η.length := by simpa [D.low] using hl
      unfold cutD; exact if_pos hi
    | _ => unfold cutD; exact if_pos hl
  unfold trimF
  rw [h]
  unfold trimR
  dsimp only
  rw [if_pos hk, hc]
  simp
theorem lows_int {n : Nat} : ∀ l : List Int, D.lows n (l.map D.int) = true
  | [] => rfl
  | _ :: l => lows_int l
theorem low_tup {n : Nat} {l : List Int} : D.low n (.tup (l.map D.int)) = true := lows_int l
/-- a cup of draws: two numbers -/
def Cup (k : Nat) (η : Store) : Prop := ∃ a b : Int, 0 ≤ a ∧ 0 ≤ b ∧ η[k]? = some (.lst [.int a, .int b])
/-- all but one thing stands -/
structure Keep (k : Nat) (η η' : Store) : Prop where
  le : η.length ≤ η'.length
  eq : ∀ j, j < η.length → j ≠ k → η'[j]? = η[j]?
theorem Keep.refl : Keep k η η := ⟨Nat.le_refl _, fun _ _ _ => rfl⟩
theorem Keep.trans (a : Keep k η1 η2) (b : Keep k η2 η3) : Keep k η1 η3 := ⟨Nat.le_trans a.le b.le, fun j h n => (b.eq j (Nat.lt_of_lt_of_le h a.le) n).trans (a.eq j h n)⟩
theorem Keep.set {o : O} : Keep k η (η.set k o) := ⟨by simp, fun j _ n => List.getElem?_set_ne (Ne.symm n)⟩
theorem Keep.app {l : List O} : Keep k η (η ++ l) := ⟨by simp, fun j h _ => List.getElem?_append_left h⟩
theorem Cup.app {l : List O} (c : Cup k η) : Cup k (η ++ l) := by
  obtain ⟨a, b, ha, hb, e⟩ := c
  exact ⟨a, b, ha, hb, by rw [List.getElem?_append_left (List.getElem?_eq_some_iff.mp e).1]; exact e⟩
theorem Cup.lt (c : Cup k η) : k < η.length := by
  obtain ⟨a, b, ha, hb, e⟩ := c
  exact (List.getElem?_eq_some_iff.mp e).1
theorem Cup.set {a b : Int} (c : Cup k η) (ha : 0 ≤ a) (hb : 0 ≤ b) : Cup k (η.set k (.lst [.int a, .int b])) :=
  ⟨a, b, ha, hb, by simp [c.lt]⟩
theorem Cup.keep {j : Nat} (c : Cup k η) (h : Keep j η η1) (n : j ≠ k) : Cup k η1 := by
  obtain ⟨a, b, ha, hb, e⟩ := c
  exact ⟨a, b, ha, hb, by rw [h.eq k (List.getElem?_eq_some_iff.mp e).1 (Ne.symm n)]; exact e⟩
end
/-- what a def of draws does: from the cup, an integer below many -/
def RollOk (F : FF) : Prop := ∀ (k : Nat) (η : Store) (m : Int), Cup k η → 0 < m → m < 1073741824 → ∃ (r : Int) (η' : Store), F [.obj k, .int m] η = .ok (.int r) η' ∧ 0 ≤ r ∧ r < m ∧ Cup k η' ∧ Keep k η η'
theorem RollOk.wp {F : FF} (h : RollOk F) {k : Nat} {η : Store} {m : Int} {Q : D → Store → Prop} {E : Ex → Store → Prop} (c : Cup k η) (h0 : 0 < m) (h1 : m < 1073741824) (q : ∀ r η', 0 ≤ r → r < m → Cup k η' → Keep k η η' → Q (.int r) η') : wpR (F [.obj k, .int m] η) Q E := by
  obtain ⟨r, η', e, h2, h3, c2, kp⟩ := h k η m c h0 h1
  rw [e]; exact q r η' h2 h3 c2 kp
/-- one of several things -/
def SomeOk (F : FF) : Prop := ∀ (k : Nat) (η : Store) (xs : List D), Cup k η → 0 < xs.length → xs.length < 1000000000 → ∃ (i : Nat) (x : D) (η' : Store), F [.obj k, .lst xs] η = .ok x η' ∧ xs[i]? = some x ∧ Cup k η' ∧ Keep k η η'
theorem SomeOk.wp {F : FF} (h : SomeOk F) {k : Nat} {η : Store} {xs : List D} {Q : D → Store → Prop} {E : Ex → Store → Prop} (c : Cup k η) (h0 : 0 < xs.length) (h1 : xs.length < 1000000000) (q : ∀ x η', x ∈ xs → Cup k η' → Keep k η η' → Q x η') : wpR (F [.obj k, .lst xs] η) Q E := by
  obtain ⟨i, x, η', e, h2, c2, kp⟩ := h k η xs c h0 h1
  rw [e]; exact q x η' (List.mem_of_getElem? h2) c2 kp
/-- the first cup -/
def CupOk (F : FF) : Prop := ∀ ns : List Int, ns.length ≤ 63 → ∃ (η : Store), F [.scr (ns.map D.int)] [] = .ok (.obj 0) η ∧ Cup 0 η
/-- values with a type that isinstance serves -/
def D.typ : D → Bool
  | .obj _ => false
  | .gl _ => false
  | .ty _ => false
  | _ => true
theorem typ_ty {d : D} (h : d.typ = true) (η : Store) : ∃ a, tyOf d η = some a := by
  cases d <;> first | exact ⟨_, rfl⟩ | cases h
/-- what _law_same likes: plain values, tuples of such -/
def D.sm : Nat → D → Bool
  | _, .non => true
  | _, .bl _ => true
  | _, .int _ => true
  | _, .str x => PyData.canLay0 (.str x)
  | n + 1, .tup xs => xs.all (D.sm n) && decide (xs.length ≤ 1000000)
  | _, _ => false
/-- it says of a value and itself that they are alike -/
def SameOk (F : Nat → FF) : Prop := ∀ (n : Nat) (d : D) (η : Store), D.sm n d = true → F (n + 1) [d, d] η = .ok (.bl true) η
theorem eqD_str {x : Str} {η : Store} (h : PyData.canLay0 (.str x) = true) : eqD (.str x) (.str x) η = some (.bl true, η) := by
  rw [eqD_pl (by simpa [D.vw, D.pl] using h) (by simpa [D.vw, D.pl] using h)]
  simp [D.vw, D.eq]
theorem ok_of_wpR1 {α : Type} {r : R α} {d : α} {η : Store} (h : wpR r (fun a η' => a = d ∧ η' = η) (fun _ _ => False)) : r = .ok d η := by
  obtain ⟨a, η', e, rfl, rfl⟩ := ok_of_wpR h
  exact e
theorem rng_map {lo : Int} {n : Nat} {g : D → D} : (rng lo n).map g = (List.range n).map fun i => g (.int (lo + (i : Nat))) := by
  unfold rng; rw [List.map_map]; rfl
section
variable {α : Type} {b : TGt} {s : FT} {te : FE} {ρ : Env} {η : Store}
theorem cmp_of (f g : α → D) (l : List α) (h : ∀ x ∈ l, ∃ ρ1, b (f x) ρ = some ρ1 ∧ s ρ1 η = .ok true η ∧ te ρ1 η = .ok (g x) η) : cmp b s te ρ (l.map f) η = .ok (l.map g) η := by
  induction l with
  | nil => rfl
  | cons x l ih =>
    obtain ⟨ρ1, e1, e2, e3⟩ := h x List.mem_cons_self
    have ih := ih fun y hy => h y (List.mem_cons_of_mem _ hy)
    rw [List.map_cons, List.map_cons]
    unfold cmp
    rw [e1]; dsimp only
    rw [e2, R.bind_ok, if_pos rfl, e3, R.bind_ok, ih, R.bind_ok]
theorem cmp_off (f g : α → D) (p : α → Bool) (l : List α) (h : ∀ x ∈ l, ∃ ρ1, b (f x) ρ = some ρ1 ∧ s ρ1 η = .ok (p x) η ∧ (p x = true → te ρ1 η = .ok (g x) η)) : cmp b s te ρ (l.map f) η = .ok ((l.filter p).map g) η := by
  induction l with
  | nil => rfl
  | cons x l ih =>
    obtain ⟨ρ1, e1, e2, e3⟩ := h x List.mem_cons_self
    have ih := ih fun y hy => h y (List.mem_cons_of_mem _ hy)
    rw [List.map_cons]
    unfold cmp
    rw [e1]; dsimp only
    rw [e2, R.bind_ok]
    cases hp : p x with
    | true => rw [if_pos rfl, e3 hp, R.bind_ok, ih, R.bind_ok, List.filter_cons_of_pos hp]; rfl
    | false => rw [if_neg (by simp), ih, List.filter_cons_of_neg (by simp [hp])]
theorem boolsOf_map (f : α → Bool) : ∀ l : List α, boolsOf (l.map fun x => .bl (f x)) = some (l.map f)
  | [] => rfl
  | x :: l => by rw [List.map_cons, boolsOf_cons, boolsOf_map f l]; rfl
theorem intsOf_map (f : α → Int) : ∀ l : List α, intsOf (l.map fun x => .int (f x)) = some (l.map f)
  | [] => rfl
  | x :: l => by
    rw [List.map_cons]
    show (intsOf (l.map fun x => .int (f x))).map _ = _
    rw [intsOf_map f l]; rfl
@[simp] theorem allD_map (f : α → Bool) (l : List α) : allD [.lst (l.map fun x => .bl (f x))] η = some (.bl (l.all f), η) := by
  rw [allD_lst, boolsOf_map, Option.map_some, List.all_map]; rfl
@[simp] theorem anyD_map (f : α → Bool) (l : List α) : anyD [.lst (l.map fun x => .bl (f x))] η = some (.bl (l.any f), η) := by
  rw [anyD_lst, boolsOf_map, Option.map_some, List.any_map]; rfl
@[simp] theorem sumD_map (f : α → Int) (l : List α) : sumD [.lst (l.map fun x => .int (f x))] η = some (.int (l.map f).sum, η) := by
  rw [sumD_lst, intsOf_map, Option.map_some]
theorem zip_maps {β : Type} (f : α → D) (g : β → D) : ∀ (l : List α) (m : List β), List.zipWith (fun x y => D.tup [x, y]) (l.map f) (m.map g) = (l.zip m).map fun p => .tup [f p.1, g p.2]
  | [], _ => by simp
  | _ :: _, [] => by simp
  | x :: l, y :: m => by
    rw [List.map_cons, List.map_cons, List.zipWith_cons_cons, zip_maps f g l m]; rfl
end
theorem zw_zip {α β : Type} (f : α → D) (g : β → D) (l : List α) (m : List β) : List.zipWith (fun a b => D.tup [f a, g b]) l m = (l.zip m).map fun p => .tup [f p.1, g p.2] := by
  rw [← zip_maps, List.zipWith_map]
theorem mem_rng {lo : Int} {n : Nat} {x : D} : x ∈ rng lo n ↔ ∃ i : Nat, i < n ∧ x = .int (lo + (i : Nat)) := by
  unfold rng
  simp only [List.mem_map, List.mem_range]
  exact ⟨fun ⟨i, h, e⟩ => ⟨i, h, e.symm⟩, fun ⟨i, h, e⟩ => ⟨i, h, e.symm⟩⟩
theorem rng_length {lo : Int} {n : Nat} : (rng lo n).length = n := by unfold rng; simp
theorem map_const {α : Type} {d : D} : ∀ l : List α, l.map (fun _ => d) = List.replicate l.length d
  | [] => rfl
  | _ :: l => by rw [List.map_cons, map_const l]; rfl
theorem boolsOf_true : ∀ n : Nat, boolsOf (List.replicate n (.bl true)) = some (List.replicate n true)
  | 0 => rfl
  | n + 1 => by rw [List.replicate_succ, boolsOf_cons, boolsOf_true n]; rfl
end Dn
/-! Dn part 16: sorted of a dict of pairs; lists of whole numbers. -/
namespace Dn
open PySem PySem.Spec PyProof.Rows L2
/-- strictly rising -/
def rise : List Int → Bool
  | [] => true
  | [_] => true
  | x :: y :: r => decide (x < y) && rise (y :: r)
theorem rise_iff : ∀ {l : List Int}, rise l = true ↔ l.Pairwise (· < ·)
  | [] => by simp [rise]
  | [x] => by simp [rise]
  | x :: y :: r => by
    have ih := rise_iff (l := y :: r)
    show (decide (x < y) && rise (y :: r)) = true ↔ _
    rw [Bool.and_eq_true_iff, ih, List.pairwise_cons (a := x)]
    constructor
    · rintro ⟨h1, h2⟩
      have h1' : x < y := of_decide_eq_true h1
      refine ⟨fun z hz => ?_, h2⟩
      rcases List.mem_cons.mp hz with rfl | hz
      · exact h1'
      · exact Int.lt_trans h1' ((List.pairwise_cons.mp h2).1 z hz)
    · rintro ⟨h1, h2⟩
      exact ⟨decide_eq_true (h1 y List.mem_cons_self), h2⟩
theorem rise_get {ns : List Int} {i : Nat} (hr : rise ns = true) (h : i + 1 < ns.length) : ns[i] < ns[i + 1] :=
  List.pairwise_iff_getElem.mp (rise_iff.mp hr) i (i + 1) (by omega) h (by omega)
theorem rise_zip : ∀ ns : List Int, rise ns = (ns.zip ns.tail).all fun p => decide (p.1 < p.2)
  | [] => rfl
  | [_] => rfl
  | x :: y :: r => by
    have ih := rise_zip (y :: r)
    show (decide (x < y) && rise (y :: r)) = _
    rw [ih]; rfl
/-- the different ones, in the order of their first place -/
def ddI (acc : List Int) : List Int → List Int
  | [] => acc
  | n :: r => ddI (if n ∈ acc then acc else acc ++ [n]) r
theorem ddI_nodup : ∀ (ns acc : List Int), acc.Nodup → (ddI acc ns).Nodup
  | [], _, h => h
  | n :: r, acc, h => by
    refine ddI_nodup r _ ?_
    split
    · exact h
    · rename_i hn
      exact List.nodup_append.mpr ⟨h, by simp, fun a ha b hb => by
        have : b = n := by simpa using hb
        subst this
        intro e; subst e; exact hn ha⟩
theorem ddI_mem : ∀ (ns acc : List Int) (x : Int), x ∈ ddI acc ns ↔ x ∈ acc ∨ x ∈ ns
  | [], _, x => by simp [ddI]
  | n :: r, acc, x => by
    show x ∈ ddI (if n ∈ acc then acc else acc ++ [n]) r ↔ _
    rw [ddI_mem r]
    split
    · rename_i h
      constructor
      · rintro (a | a)
        · exact .inl a
        · exact .inr (List.mem_cons_of_mem _ a)
      · rintro (a | a)
        · exact .inl a
        · rcases List.mem_cons.mp a with rfl | a
          · exact .inl h
          · exact .inr a
    · simp [or_assoc]
theorem ddI_len : ∀ (ns acc : List Int), (ddI acc ns).length ≤ acc.length + ns.length
  | [], _ => by simp [ddI]
  | n :: r, acc => by
    refine Nat.le_trans (ddI_len r _) ?_
    split <;> simp <;> omega
/-- sorted, each once -/
def sortU (ns : List Int) : List Int := sortI (ddI [] ns)
theorem mem_sortI {x : Int} {l : List Int} : x ∈ sortI l ↔ x ∈ l := (sortI_perm l).mem_iff
theorem mem_sortU {x : Int} {ns : List Int} : x ∈ sortU ns ↔ x ∈ ns := by
  unfold sortU; rw [mem_sortI, ddI_mem]; simp
theorem len_sortI {l : List Int} : (sortI l).length = l.length := (sortI_perm l).length_eq
theorem len_sortU {ns : List Int} : (sortU ns).length ≤ ns.length := by
  unfold sortU; rw [len_sortI]; simpa using ddI_len ns []
theorem rise_sortU {ns : List Int} : rise (sortU ns) = true := by
  have h1 : (sortU ns).Nodup := (sortI_perm _).nodup_iff.mpr (ddI_nodup ns [] List.nodup_nil)
  have h2 : (sortU ns).Pairwise (· ≤ ·) := sortI_sorted _
  refine rise_iff.mpr ?_
  exact List.Pairwise.imp₂ (fun a b h n => by omega) h2 (List.nodup_iff_pairwise_ne.mp h1)
theorem keys_putD {kvs : List (Key × D)} {acc : List Int} {n : Int} {v : D} (h : kvs.map (·.1) = acc.map Sum.inl) : (putD kvs (.inl n) v).map (·.1) = (if n ∈ acc then acc else acc ++ [n]).map Sum.inl := by
  have e : (kvs.any fun kv => decide (kv.1 = (.inl n : Key))) = decide (n ∈ acc) := by
    have e1 : (kvs.any fun kv => decide (kv.1 = (.inl n : Key))) = (kvs.map (·.1)).any fun k => decide (k = (.inl n : Key)) := by rw [List.any_map]; rfl
    rw [e1, h, List.any_map, Bool.eq_iff_iff]
    simp
  unfold putD
  rw [e]
  by_cases hn : n ∈ acc
  · rw [if_pos (by simpa using hn), if_pos hn, ← h, List.map_map]
    refine List.map_congr_left fun kv _ => ?_
    simp only [Function.comp]
    split <;> rfl
  · rw [if_neg (by simpa using hn), if_neg hn, List.map_append, h]
    simp
theorem keys_mergeD : ∀ {ns : List Int} {v : D} {kvs : List (Key × D)} {acc : List Int}, kvs.map (·.1) = acc.map Sum.inl → (mergeD kvs (ns.map fun n => (.inl n, v))).map (·.1) = (ddI acc ns).map Sum.inl
  | [], _, _, _, h => h
  | n :: r, v, kvs, acc, h => by
    show (mergeD (putD kvs (.inl n) v) (r.map fun n => (.inl n, v))).map (·.1) = _
    rw [keys_mergeD (keys_putD h)]; rfl
theorem intKeys_map : ∀ l : List Int, intKeys (l.map Sum.inl) = some l
  | [] => rfl
  | x :: l => by
    show (intKeys (l.map Sum.inl)).map (x :: ·) = _
    rw [intKeys_map l]; rfl
theorem pairsD_map (v : D) : ∀ ns : List Int, pairsD (ns.map fun n => .tup [.int n, v]) = some (ns.map fun n => (.inl n, v))
  | [] => rfl
  | n :: r => by
    show (pairD (.tup [.int n, v])).bind _ = _
    show ((pairsD (r.map fun n => .tup [.int n, v])).map _) = _
    rw [pairsD_map v r]; rfl
section
variable {η : Store} {ns : List Int} {v : D}
theorem dictD_map : dictD [.lst (ns.map fun n => .tup [.int n, v])] η = some (.obj η.length, η ++ [.dK (mergeD [] (ns.map fun n => (.inl n, v)))]) := by
  unfold dictD
  dsimp only [seqL]
  rw [pairsD_map]
theorem sortedD_dict (h : ns.length < 64) : sortedD [.obj η.length] (η ++ [.dK (mergeD [] (ns.map fun n => (.inl n, v)))]) = some (.lst ((sortU ns).map D.int), η ++ [.dK (mergeD [] (ns.map fun n => (.inl n, v)))]) := by
  have e : (η ++ [.dK (mergeD [] (ns.map fun n => (.inl n, v)))])[η.length]? = some (.dK (mergeD [] (ns.map fun n => (.inl n, v)))) := by simp
  unfold sortedD
  dsimp only [seqL]
  rw [e]
  dsimp only
  rw [keys_mergeD (acc := []) rfl, intKeys_map]
  dsimp only
  rw [if_pos (by have := ddI_len ns []; simp at this; omega)]
  rfl
theorem sortedD_lst : sortedD [.lst (ns.map D.int)] η = some (.lst ((sortI ns).map D.int), η) := by
  unfold sortedD
  dsimp only [seqL]
  rw [ints_map]; rfl
end
section
variable {α : Type} {xs : List α} {x : α} {ds : List D} {d : D}
theorem atI_snoc : atI (xs ++ [x]) (-1) = some x := by rw [atI_last (by simp)]; simp
theorem cutL_snoc_but : cutL (ds ++ [d]) none (some (-1)) = ds := by rw [cutL_but1]; simp
theorem cutL_snoc_last : cutL (ds ++ [d]) (some (-1)) none = [d] := by rw [cutL_last1]; simp
end
theorem pls_int {α : Type} {n : Nat} (f : α → Int) : ∀ l : List α, D.pls n (l.map fun x => .int (f x)) = true
  | [] => rfl
  | x :: l => by
    show (D.pl n (.int (f x)) && D.pls n (l.map fun x => .int (f x))) = true
    rw [pls_int f l]
    cases n <;> rfl
theorem eqD_nilI {α : Type} (f : α → Int) (l : List α) {η : Store} : eqD (.lst (l.map fun x => .int (f x))) (.lst []) η = some (.bl l.isEmpty, η) := by
  have h1 : D.pl 60 (D.vw η (.lst (l.map fun x => .int (f x)))) = true := pls_int f l
  rw [eqD_pl h1 rfl]
  cases l <;> rfl
@[simp] theorem neD_nil {η : Store} : neD (.lst []) (.lst []) η = some (.bl false, η) := by rw [neD_pl (by rfl) (by rfl)]; rfl
@[simp] theorem eqD_nil {η : Store} : eqD (.lst []) (.lst []) η = some (.bl true, η) := by rw [eqD_pl (by rfl) (by rfl)]; rfl
/-- the last one that passes, by places -/
theorem filter_places {α : Type} (d : α) (l : List α) (p : α → Bool) : l.filter p = ((List.range l.length).filter fun i => p (l.getD i d)).map fun i => l.getD i d := by
  have e : l = (List.range l.length).map fun i => l.getD i d := by
    refine List.ext_getElem (by simp) fun i h1 h2 => ?_
    simp [h1]
  conv => lhs; rw [e]
  rw [List.filter_map]; rfl
end Dn
/-! Dn part 17: three names at once. -/
namespace Dn
open PySem PySem.Spec PyProof.Rows L2
section
variable {X : Cx} {W : WX} {K : PySem.W.Frag} {w w1 w' : Wd} {σ : L2.St} {H H1 H' : Hp} {ρ : Env} {η η1 : Store} {fa fb fc f : FE} {a b c e : Expr} {es : List Expr} {pos p : Pos} {fA : FA}
/-- a, b, c = x, y, z: three different local names -/
def sPar3 (i j l : Nat) (fa fb fc : FE) : FS := fun ρ η => (fa ρ η).bindS ρ fun x η => (fb ρ η).bindS ρ fun y η => (fc ρ η).bindS ρ fun z η => .nx (((ρ.set i (some x)).set j (some y)).set l (some z)) η
theorem ds_par3 (i j l : Nat) {x y z : Str} {px py pz pt : Pos} {kt k2 pt2} (hc : X.calm = true) (hN : X.N.Nodup) (ha : DE X W a fa) (hb : DE X W b fb) (hcc : DE X W c fc) (hi : X.N[i]? = some x := by rfl) (hj : X.N[j]? = some y := by rfl) (hl : X.N[l]? = some z := by rfl)
    (hij : i ≠ j := by decide) (hil : i ≠ l := by decide) (hjl : j ≠ l := by decide)
    (hx : X.env.scope.names.lookup x = some .local := by rfl) (hy : X.env.scope.names.lookup y = some .local := by rfl) (hz : X.env.scope.names.lookup z = some .local := by rfl)
    (hw : swappedStores [.Tuple [.Name x px, .Name y py, .Name z pz] kt pt] (.Tuple [a, b, c] k2 pt2) X.env = pure (some [x, y, z]) := by rfl)
    (hs : swapsWithSole [.Tuple [.Name x px, .Name y py, .Name z pz] kt pt] (.Tuple [a, b, c] k2 pt2) pos.line X.env = pure false := by rfl)
    (h1 : starEach [a, b, c] X.env = (false, eval a X.env) :: starEach [b, c] X.env := by rfl) (h2 : starEach [b, c] X.env = (false, eval b X.env) :: starEach [c] X.env := by rfl) (h3 : starEach [c] X.env = (false, eval c X.env) :: starEach [] X.env := by rfl) :
    DS X W (.Assign [.Tuple [.Name x px, .Name y py, .Name z pz] kt pt] (.Tuple [a, b, c] k2 pt2) pos) (sPar3 i j l fa fb fc) :=
  PS.imp (ps_par3 hc hN hi hj hl hij hil hjl hx hy hz (pa_cons ha (pa_cons hb (pa_cons hcc pa_nil h3) h2) h1) hw hs) fun E σ H ⟨w, ρ, η, rel, p⟩ => by
    refine (rdE_thenS rel p).imp fun v H1 ⟨w1, d, η1, e, rel1, rv, p1⟩ => ?_
    refine (rdE_thenS rel1 p1).imp fun u H2 ⟨w2, d2, η2, e2, rel2, rv2, p2⟩ => ?_
    refine (rdE_thenS rel2 p2).imp fun u3 H3 ⟨w3, d3, η3, e3, rel3, rv3, p3⟩ => ?_
    exact ⟨_, _, _, rfl, p3 _ w3 H3 .refl ⟨((rel3.env.set ((rv.ext e2).ext e3)).set (rv2.ext e3)).set rv3, rel3.heap⟩⟩
variable {P : Po}
/-- a new list that is given back, told by value from then on -/
theorem trim_lst {F : FF} {ds xs : List D} {η l : Store} (h : F ds η = .ok (.obj η.length) (η ++ .lst xs :: l)) (hl : D.lows η.length xs = true) : trimF F ds η = .ok (.lst xs) η := by
  have hk : keepS η (η ++ .lst xs :: l) := keepS_app _ _
  have hc : cutD η.length (η ++ .lst xs :: l) (.obj η.length) = some (.lst xs) := by
    unfold cutD
    dsimp only
    rw [if_neg (by omega)]
    have e : (η ++ O.lst xs :: l)[η.length]? = some (.lst xs) := by simp
    rw [e]
    exact if_pos hl
  unfold trimF
  rw [h]
  unfold trimR
  dsimp only
  rw [if_pos hk, hc]
  simp
@[simp] theorem w_par3 {i j l : Nat} : wpS (sPar3 i j l fa fb fc ρ η) P ↔ wpR (fa ρ η) (fun x η => wpR (fb ρ η) (fun y η => wpR (fc ρ η) (fun z η => P.nx (((ρ.set i (some x)).set j (some y)).set l (some z)) η) (fun x η => P.ex x ρ η)) (fun x η => P.ex x ρ η)) (fun x η => P.ex x ρ η) := by
  unfold sPar3; rw [wpS_bindS]; simp only [wpS_bindS, w_nxS]
end
end Dn
namespace K89
open PySem PySem.Spec PyProof.Rows L2 Dn
def top (i : Nat) : Stmt := PySem.Challenge.pw_coinmaster_k89_whole_balances_of_savings.main.body.getD i (.Pass ⟨0, 0, 0, 0⟩)
structure Fx (K : PySem.W.Frag) (mg : Str → Option Value) : Prop where
  f_is_whole : Fn1 K mg "is_whole" (top 5)
  f_fits_whole : Fn1 K mg "fits_whole" (top 6)
  f_is_tuple_of : Fn1 K mg "is_tuple_of" (top 7)
  f_common_divisor : Fn1 K mg "common_divisor" (top 8)
  f_fits_plan : Fn1 K mg "fits_plan" (top 15)
  f_need_plan : Fn1 K mg "need_plan" (top 16)
  f_need_number : Fn1 K mg "need_number" (top 17)
  f_power_of : Fn1 K mg "power_of" (top 18)
  f_parts_in : Fn1 K mg "parts_in" (top 19)
  f_held_in : Fn1 K mg "held_in" (top 20)
  f_lowest : Fn1 K mg "lowest" (top 21)
  f_reaches : Fn1 K mg "reaches" (top 22)
  f_first_reach : Fn1 K mg "first_reach" (top 23)
  f_ceiling : Fn1 K mg "ceiling" (top 24)
  f_is_plan : Fn1 K mg "is_plan" (top 25)
  f_balance : Fn1 K mg "balance" (top 26)
  f_whole_balance : Fn1 K mg "whole_balance" (top 27)
  f_periods_to : Fn1 K mg "periods_to" (top 28)
  f_least_deposit : Fn1 K mg "least_deposit" (top 29)
  f_least_start : Fn1 K mg "least_start" (top 30)
  f_times_to : Fn1 K mg "times_to" (top 31)
  f__law_cup : Fn1 K mg "_law_cup" (top 33)
  f__law_roll : Fn1 K mg "_law_roll" (top 34)
  f__law_some : Fn1 K mg "_law_some" (top 35)
  f__law_same : Fn1 K mg "_law_same" (top 36)
  f__law_lowest : Fn1 K mg "_law_lowest" (top 37)
  f__law_plan : Fn1 K mg "_law_plan" (top 38)
  f__law_steps : Fn1 K mg "_law_steps" (top 39)
  f__law_balances_right : Fn1 K mg "_law_balances_right" (top 40)
  f__law_goals_right : Fn1 K mg "_law_goals_right" (top 41)
  f__law_times_right : Fn1 K mg "_law_times_right" (top 42)
  f__law_late_right : Fn1 K mg "_law_late_right" (top 43)
  f_law : Fn1 K mg "law" (top 44)
  b_isinstance : mg "isinstance" = none
  b_int : mg "int" = none
  b_bool : mg "bool" = none
  b_tuple : mg "tuple" = none
  b_len : mg "len" = none
  b_all : mg "all" = none
  b_abs : mg "abs" = none
  b_max : mg "max" = none
  b_range : mg "range" = none
  b_list : mg "list" = none
  b_str : mg "str" = none
  b_min : mg "min" = none
  i_GREAT : ∃ t, mg "GREAT" = some (.int 1000000 t)
  i_GOAL : ∃ t, mg "GOAL" = some (.int 1000000000 t)
  i_RATE : ∃ t, mg "RATE" = some (.int 10000 t)
  i_PERIODS : ∃ t, mg "PERIODS" = some (.int 300 t)
  i_FAR : ∃ t, mg "FAR" = some (.int 1000 t)
/-! ### is_whole -/
theorem sc_is_whole : FnScope ["value"] ["value"] (defScope (top 5)) := ⟨rfl, rfl, rfl, by decide +kernel, rfl, by decide +kernel, by decide +kernel⟩
@[irreducible] noncomputable def b_is_whole : FS := (sRet (andE (eL isiD (aCons (gv 0) (aCons (cst (.ty "int")) aNil))) (notE (eL isiD (aCons (gv 0) (aCons (cst (.ty "bool")) aNil))))))
noncomputable def F_is_whole : FF := runF 1 (b_is_whole)
theorem ok_is_whole {P : Program} {w : World} {K : PySem.W.Frag} {mg : Str → Option Value} {base : Heap} (S : Fx K mg) : FOk P w K mg base 1 "is_whole" 1 F_is_whole := by
  have sc := sc_is_whole
  have hN := sc.nd
  refine (Fn1.ok (k := 0) S.f_is_whole sc rfl (fun cdv A outer s H E f hr tk hp => ?_) (fun _ _ _ _ _ _ us hl => match us, hl with | [_], _ => rfl))
  have hu := hr.units
  exact (by unfold b_is_whole; exact (dss_one (ds_ret (de_and (de_callB callD_isi S.b_isinstance rfl (da_cons (de_v 0) (da_cons (de_ty S.b_int rfl) da_nil))) (de_one (de_not (de_callB callD_isi S.b_isinstance rfl (da_cons (de_v 0) (da_cons (de_ty S.b_bool rfl) da_nil)))))))))
/-! ### fits_whole -/
theorem sc_fits_whole : FnScope ["value", "low", "high"] ["value", "low", "high"] (defScope (top 6)) := ⟨rfl, rfl, rfl, by decide +kernel, rfl, by decide +kernel, by decide +kernel⟩
@[irreducible] noncomputable def b_fits_whole : FS := (sRet (andE (eCall 1 F_is_whole (aCons (gv 0) aNil)) (chn leI leI (gv 1) (gv 0) (gv 2))))
noncomputable def F_fits_whole : FF := runF 3 (b_fits_whole)
theorem ok_fits_whole {P : Program} {w : World} {K : PySem.W.Frag} {mg : Str → Option Value} {base : Heap} (S : Fx K mg) : FOk P w K mg base 2 "fits_whole" 3 F_fits_whole := by
  have c_is_whole := ok_is_whole (P := P) (w := w) (base := base) S
  have sc := sc_fits_whole
  have hN := sc.nd
  refine (Fn1.ok (k := 1) S.f_fits_whole sc rfl (fun cdv A outer s H E f hr tk hp => ?_) (fun _ _ _ _ _ _ us hl => match us, hl with | [_, _, _], _ => rfl))
  have hu := hr.units
  exact (by unfold b_fits_whole; exact (dss_one (ds_ret (de_and (de_callF c_is_whole tk (hr.mono (by omega)) (da_cons (de_v 0) da_nil)) (de_one (de_chain opD_le opD_le (de_v 1) (de_v 0) (de_v 2)))))))
/-! ### is_tuple_of -/
theorem sc_is_tuple_of : FnScope ["value", "least", "most"] ["value", "least", "most"] (defScope (top 7)) := ⟨rfl, rfl, rfl, by decide +kernel, rfl, by decide +kernel, by decide +kernel⟩
@[irreducible] noncomputable def b_is_tuple_of : FS := (sRet (andE (eL isiD (aCons (gv 0) (aCons (cst (.ty "tuple")) aNil))) (chn leI leI (gv 1) (eL lenD (aCons (gv 0) aNil)) (gv 2))))
noncomputable def F_is_tuple_of : FF := runF 3 (b_is_tuple_of)
theorem ok_is_tuple_of {P : Program} {w : World} {K : PySem.W.Frag} {mg : Str → Option Value} {base : Heap} (S : Fx K mg) : FOk P w K mg base 1 "is_tuple_of" 3 F_is_tuple_of := by
  have sc := sc_is_tuple_of
  have hN := sc.nd
  refine (Fn1.ok (k := 0) S.f_is_tuple_of sc rfl (fun cdv A outer s H E f hr tk hp => ?_) (fun _ _ _ _ _ _ us hl => match us, hl with | [_, _, _], _ => rfl))
  have hu := hr.units
  exact (by unfold b_is_tuple_of; exact (dss_one (ds_ret (de_and (de_callB callD_isi S.b_isinstance rfl (da_cons (de_v 0) (da_cons (de_ty S.b_tuple rfl) da_nil))) (de_one (de_chain opD_le opD_le (de_v 1) (de_callB callD_len S.b_len rfl (da_cons (de_v 0) da_nil)) (de_v 2)))))))
/-! ### common_divisor -/
theorem sc_common_divisor : FnScope ["one", "other"] ["one", "other"] (defScope (top 8)) := ⟨rfl, rfl, rfl, by decide +kernel, rfl, by decide +kernel, by decide +kernel⟩
@[irreducible] noncomputable def b_common_divisor_1 : FS := (sPar 0 1 (gv 1) (e2 modD (gv 0) (gv 1)))
@[irreducible] noncomputable def b_common_divisor : FS := (sSeq (whl (tst (e2 gtI (gv 1) (cst (.int 0)))) b_common_divisor_1 fuel)
    (sRet (gv 0)))
noncomputable def F_common_divisor : FF := runF 2 (b_common_divisor)
theorem ok_common_divisor {P : Program} {w : World} {K : PySem.W.Frag} {mg : Str → Option Value} {base : Heap} (S : Fx K mg) : FOk P w K mg base 1 "common_divisor" 2 F_common_divisor := by
  have sc := sc_common_divisor
  have hN := sc.nd
  refine (Fn1.ok (k := 0) S.f_common_divisor sc rfl (fun cdv A outer s H E f hr tk hp => ?_) (fun _ _ _ _ _ _ us hl => match us, hl with | [_, _], _ => rfl))
  have hu := hr.units
  exact (by unfold b_common_divisor b_common_divisor_1; exact (dss_cons (ds_while hp (dt_cmp opD_gt (de_v 1) de_int) (dss_one (ds_par 0 1 rfl hN (de_v 1) (de_op opD_mod (de_v 0) (de_v 1)))))
    (dss_one (ds_ret (de_v 0)))))
/-! ### fits_plan -/
theorem sc_fits_plan : FnScope ["value", "one"] ["value"] (defScope (top 15)) := ⟨rfl, rfl, rfl, by decide +kernel, rfl, by decide +kernel, by decide +kernel⟩
@[irreducible] noncomputable def b_fits_plan : FS := (sSeq (sIf (orT (notT (tru (eCall 3 F_is_tuple_of (aCons (gv 0) (aCons (cst (.int 4)) (aCons (cst (.int 4)) aNil)))))) (notT (tru (eL allD (aCons (lc fuel [1] (iVal (eSl slD (gv 0) oNone (oSome (cst (.int 2))))) (bN 1) yes (eCall 3 F_fits_whole (aCons (gv 1) (aCons (cst (.int 0)) (aCons (cst (.int 1000000)) aNil))))) aNil))))) (sRet (cst (.bl false))) sNil)
    (sRet (andE (eCall 3 F_fits_whole (aCons (e2 ixD (gv 0) (cst (.int 3))) (aCons (cst (.int 1)) (aCons (cst (.int 10000)) aNil)))) (eCall 3 F_fits_whole (aCons (e2 ixD (gv 0) (cst (.int 2))) (aCons (cst (.int 0)) (aCons (e2 ixD (gv 0) (cst (.int 3))) aNil)))))))
noncomputable def F_fits_plan : FF := runF 2 (b_fits_plan)
theorem ok_fits_plan {P : Program} {w : World} {K : PySem.W.Frag} {mg : Str → Option Value} {base : Heap} (S : Fx K mg) : FOk P w K mg base 3 "fits_plan" 1 F_fits_plan := by
  have c_fits_whole := ok_fits_whole (P := P) (w := w) (base := base) S
  have c_is_tuple_of := ok_is_tuple_of (P := P) (w := w) (base := base) S
  have sc := sc_fits_plan
  have hN := sc.nd
  refine (Fn1.ok (k := 2) S.f_fits_plan sc rfl (fun cdv A outer s H E f hr tk hp => ?_) (fun _ _ _ _ _ _ us hl => match us, hl with | [_], _ => rfl))
  have hu := hr.units
  exact (by unfold b_fits_plan; exact (dss_cons (ds_if (dt_w (dw_or (dt_not (dt_tru (de_callF c_is_tuple_of tk (hr.mono (by omega)) (da_cons (de_v 0) (da_cons de_int (da_cons de_int da_nil)))))) (dw_or1 (dt_not (dt_tru (de_callB (callD_all rfl) S.b_all rfl (da_cons (de_lc rfl hN (di_val (de_slice slD_ok (de_v 0) do_none (do_some de_int))) (blkOk_by (own := [("one", 1)]) (by kernel_rfl)) (fun _ _ _ _ _ => (dg_n 1 hN)) (fun _ _ _ _ _ => dts_nil) (fun _ _ _ _ _ => (de_callF c_fits_whole takes0 (hr.mono (by omega)) (da_cons (de_v 1) (da_cons de_int (da_cons (de_gint S.i_GREAT) da_nil)))))) da_nil))))))) (dss_one (ds_ret de_bl)) dss_nil)
    (dss_one (ds_ret (de_and (de_callF c_fits_whole tk (hr.mono (by omega)) (da_cons (de_ix ixD_seq (de_v 0) de_int) (da_cons de_int (da_cons (de_gint S.i_RATE) da_nil)))) (de_one (de_callF c_fits_whole tk (hr.mono (by omega)) (da_cons (de_ix ixD_seq (de_v 0) de_int) (da_cons de_int (da_cons (de_ix ixD_seq (de_v 0) de_int) da_nil))))))))))
/-! ### need_plan -/
theorem sc_need_plan : FnScope ["value"] ["value"] (defScope (top 16)) := ⟨rfl, rfl, rfl, by decide +kernel, rfl, by decide +kernel, by decide +kernel⟩
@[irreducible] noncomputable def b_need_plan : FS := (sIf (notT (tru (eCall 1 F_fits_plan (aCons (gv 0) aNil)))) noS sNil)
noncomputable def F_need_plan : FF := runF 1 (b_need_plan)
theorem ok_need_plan {P : Program} {w : World} {K : PySem.W.Frag} {mg : Str → Option Value} {base : Heap} (S : Fx K mg) : FOk P w K mg base 4 "need_plan" 1 F_need_plan := by
  have c_fits_plan := ok_fits_plan (P := P) (w := w) (base := base) S
  have sc := sc_need_plan
  have hN := sc.nd
  refine (Fn1.ok (k := 3) S.f_need_plan sc rfl (fun cdv A outer s H E f hr tk hp => ?_) (fun _ _ _ _ _ _ us hl => match us, hl with | [_], _ => rfl))
  have hu := hr.units
  exact (by unfold b_need_plan; exact (dss_one (ds_if (dt_not (dt_tru (de_callF c_fits_plan tk (hr.mono (by omega)) (da_cons (de_v 0) da_nil)))) (dss_one ds_no) dss_nil)))
/-! ### need_number -/
theorem sc_need_number : FnScope ["value", "low", "high"] ["value", "low", "high"] (defScope (top 17)) := ⟨rfl, rfl, rfl, by decide +kernel, rfl, by decide +kernel, by decide +kernel⟩
@[irreducible] noncomputable def b_need_number : FS := (sIf (notT (tru (eCall 3 F_fits_whole (aCons (gv 0) (aCons (gv 1) (aCons (gv 2) aNil)))))) noS sNil)
noncomputable def F_need_number : FF := runF 3 (b_need_number)
theorem ok_need_number {P : Program} {w : World} {K : PySem.W.Frag} {mg : Str → Option Value} {base : Heap} (S : Fx K mg) : FOk P w K mg base 3 "need_number" 3 F_need_number := by
  have c_fits_whole := ok_fits_whole (P := P) (w := w) (base := base) S
  have sc := sc_need_number
  have hN := sc.nd
  refine (Fn1.ok (k := 2) S.f_need_number sc rfl (fun cdv A outer s H E f hr tk hp => ?_) (fun _ _ _ _ _ _ us hl => match us, hl with | [_, _, _], _ => rfl))
  have hu := hr.units
  exact (by unfold b_need_number; exact (dss_one (ds_if (dt_not (dt_tru (de_callF c_fits_whole tk (hr.mono (by omega)) (da_cons (de_v 0) (da_cons (de_v 1) (da_cons (de_v 2) da_nil)))))) (dss_one ds_no) dss_nil)))
/-! ### power_of -/
theorem sc_power_of : FnScope ["base", "many", "found"] ["base", "many"] (defScope (top 18)) := ⟨rfl, rfl, rfl, by decide +kernel, rfl, by decide +kernel, by decide +kernel⟩
@[irreducible] noncomputable def b_power_of_1 : FS := (sPar3 2 0 1 (ifE (tst (e2 eqD (e2 modD (gv 1) (cst (.int 2))) (cst (.int 1)))) (e2 mulD (gv 2) (gv 0)) (gv 2)) (e2 mulD (gv 0) (gv 0)) (e2 fdivD (gv 1) (cst (.int 2))))
@[irreducible] noncomputable def b_power_of : FS := (sSeq (sAsg (cst (.int 1)) (bN 2))
    (sSeq (whl (tst (e2 gtI (gv 1) (cst (.int 0)))) b_power_of_1 fuel)
    (sRet (gv 2))))
noncomputable def F_power_of : FF := runF 3 (b_power_of)
theorem ok_power_of {P : Program} {w : World} {K : PySem.W.Frag} {mg : Str → Option Value} {base : Heap} (S : Fx K mg) : FOk P w K mg base 1 "power_of" 2 F_power_of := by
  have sc := sc_power_of
  have hN := sc.nd
  refine (Fn1.ok (k := 0) S.f_power_of sc rfl (fun cdv A outer s H E f hr tk hp => ?_) (fun _ _ _ _ _ _ us hl => match us, hl with | [_, _], _ => rfl))
  have hu := hr.units
  exact (by unfold b_power_of b_power_of_1; exact (dss_cons (ds_set 2 hN de_int)
    (dss_cons (ds_while hp (dt_cmp opD_gt (de_v 1) de_int) (dss_one (ds_par3 2 0 1 rfl hN (de_if (dt_cmp (opD_eq hu) (de_op opD_mod (de_v 1) de_int) de_int) (de_op opD_mul (de_v 2) (de_v 0)) (de_v 2)) (de_op opD_mul (de_v 0) (de_v 0)) (de_op opD_fdiv (de_v 1) de_int))))
    (dss_one (ds_ret (de_v 2))))))
/-! ### parts_in -/
theorem sc_parts_in : FnScope ["plan", "periods", "many", "of", "grown", "below"] ["plan", "periods"] (defScope (top 19)) := ⟨rfl, rfl, rfl, by decide +kernel, rfl, by decide +kernel, by decide +kernel⟩
@[irreducible] noncomputable def b_parts_in : FS := (sSeq (sPar 2 3 (e2 ixD (gv 0) (cst (.int 2))) (e2 ixD (gv 0) (cst (.int 3))))
    (sSeq (sPar 4 5 (eCall 2 F_power_of (aCons (e2 addD (gv 3) (gv 2)) (aCons (gv 1) aNil))) (eCall 2 F_power_of (aCons (gv 3) (aCons (gv 1) aNil))))
    (sSeq (sIf (tst (e2 eqD (gv 2) (cst (.int 0)))) (sRet (mkT (aCons (gv 4) (aCons (e2 mulD (gv 1) (gv 5)) (aCons (gv 5) aNil))))) sNil)
    (sRet (mkT (aCons (gv 4) (aCons (e2 fdivD (e2 mulD (e2 subD (gv 4) (gv 5)) (gv 3)) (gv 2)) (aCons (gv 5) aNil))))))))
noncomputable def F_parts_in : FF := runF 6 (b_parts_in)
theorem ok_parts_in {P : Program} {w : World} {K : PySem.W.Frag} {mg : Str → Option Value} {base : Heap} (S : Fx K mg) : FOk P w K mg base 2 "parts_in" 2 F_parts_in := by
  have c_power_of := ok_power_of (P := P) (w := w) (base := base) S
  have sc := sc_parts_in
  have hN := sc.nd
  refine (Fn1.ok (k := 1) S.f_parts_in sc rfl (fun cdv A outer s H E f hr tk hp => ?_) (fun _ _ _ _ _ _ us hl => match us, hl with | [_, _], _ => rfl))
  have hu := hr.units
  exact (by unfold b_parts_in; exact (dss_cons (ds_par 2 3 rfl hN (de_ix ixD_seq (de_v 0) de_int) (de_ix ixD_seq (de_v 0) de_int))
    (dss_cons (ds_par 4 5 rfl hN (de_callF c_power_of tk (hr.mono (by omega)) (da_cons (de_op opD_add (de_v 3) (de_v 2)) (da_cons (de_v 1) da_nil))) (de_callF c_power_of tk (hr.mono (by omega)) (da_cons (de_v 3) (da_cons (de_v 1) da_nil))))
    (dss_cons (ds_if (dt_cmp (opD_eq hu) (de_v 2) de_int) (dss_one (ds_ret (de_tup (da_cons (de_v 4) (da_cons (de_op opD_mul (de_v 1) (de_v 5)) (da_cons (de_v 5) da_nil)))))) dss_nil)
    (dss_one (ds_ret (de_tup (da_cons (de_v 4) (da_cons (de_op opD_fdiv (de_op opD_mul (de_op opD_sub (de_v 4) (de_v 5)) (de_v 3)) (de_v 2)) (da_cons (de_v 5) da_nil))))))))))
/-! ### held_in -/
theorem sc_held_in : FnScope ["plan", "periods", "grown", "puts", "below"] ["plan", "periods"] (defScope (top 20)) := ⟨rfl, rfl, rfl, by decide +kernel, rfl, by decide +kernel, by decide +kernel⟩
@[irreducible] noncomputable def b_held_in : FS := (sSeq (sAsg (eCall 2 F_parts_in (aCons (gv 0) (aCons (gv 1) aNil))) (bT [(bN 2), (bN 3), (bN 4)]))
    (sRet (mkT (aCons (e2 addD (e2 mulD (e2 ixD (gv 0) (cst (.int 0))) (gv 2)) (e2 mulD (e2 ixD (gv 0) (cst (.int 1))) (gv 3))) (aCons (gv 4) aNil)))))
noncomputable def F_held_in : FF := runF 5 (b_held_in)
theorem ok_held_in {P : Program} {w : World} {K : PySem.W.Frag} {mg : Str → Option Value} {base : Heap} (S : Fx K mg) : FOk P w K mg base 3 "held_in" 2 F_held_in := by
  have c_parts_in := ok_parts_in (P := P) (w := w) (base := base) S
  have sc := sc_held_in
  have hN := sc.nd
  refine (Fn1.ok (k := 2) S.f_held_in sc rfl (fun cdv A outer s H E f hr tk hp => ?_) (fun _ _ _ _ _ _ us hl => match us, hl with | [_, _], _ => rfl))
  have hu := hr.units
  exact (by unfold b_held_in; exact (dss_cons (ds_asg (dg_t rfl (dgs_cons (dg_n 2 hN) (dgs_cons (dg_n 3 hN) (dgs_cons (dg_n 4 hN) dgs_nil)))) (de_callF c_parts_in tk (hr.mono (by omega)) (da_cons (de_v 0) (da_cons (de_v 1) da_nil))))
    (dss_one (ds_ret (de_tup (da_cons (de_op opD_add (de_op opD_mul (de_ix ixD_seq (de_v 0) de_int) (de_v 2)) (de_op opD_mul (de_ix ixD_seq (de_v 0) de_int) (de_v 3))) (da_cons (de_v 4) da_nil)))))))
/-! ### lowest -/
theorem sc_lowest : FnScope ["top", "below", "least"] ["top", "below"] (defScope (top 21)) := ⟨rfl, rfl, rfl, by decide +kernel, rfl, by decide +kernel, by decide +kernel⟩
@[irreducible] noncomputable def b_lowest : FS := (sSeq (sAsg (eCall 2 F_common_divisor (aCons (eL absD (aCons (gv 0) aNil)) (aCons (gv 1) aNil))) (bN 2))
    (sRet (mkT (aCons (e2 fdivD (gv 0) (gv 2)) (aCons (e2 fdivD (gv 1) (gv 2)) aNil)))))
noncomputable def F_lowest : FF := runF 3 (b_lowest)
theorem ok_lowest {P : Program} {w : World} {K : PySem.W.Frag} {mg : Str → Option Value} {base : Heap} (S : Fx K mg) : FOk P w K mg base 2 "lowest" 2 F_lowest := by
  have c_common_divisor := ok_common_divisor (P := P) (w := w) (base := base) S
  have sc := sc_lowest
  have hN := sc.nd
  refine (Fn1.ok (k := 1) S.f_lowest sc rfl (fun cdv A outer s H E f hr tk hp => ?_) (fun _ _ _ _ _ _ us hl => match us, hl with | [_, _], _ => rfl))
  have hu := hr.units
  exact (by unfold b_lowest; exact (dss_cons (ds_set 2 hN (de_callF c_common_divisor tk (hr.mono (by omega)) (da_cons (de_callB callD_abs S.b_abs rfl (da_cons (de_v 0) da_nil)) (da_cons (de_v 1) da_nil))))
    (dss_one (ds_ret (de_tup (da_cons (de_op opD_fdiv (de_v 0) (de_v 2)) (da_cons (de_op opD_fdiv (de_v 1) (de_v 2)) da_nil)))))))
/-! ### reaches -/
theorem sc_reaches : FnScope ["plan", "goal", "periods", "top", "below"] ["plan", "goal", "periods"] (defScope (top 22)) := ⟨rfl, rfl, rfl, by decide +kernel, rfl, by decide +kernel, by decide +kernel⟩
@[irreducible] noncomputable def b_reaches : FS := (sSeq (sAsg (eCall 2 F_held_in (aCons (gv 0) (aCons (gv 2) aNil))) (bT [(bN 3), (bN 4)]))
    (sRet (e2 geI (gv 3) (e2 mulD (gv 1) (gv 4)))))
noncomputable def F_reaches : FF := runF 5 (b_reaches)
theorem ok_reaches {P : Program} {w : World} {K : PySem.W.Frag} {mg : Str → Option Value} {base : Heap} (S : Fx K mg) : FOk P w K mg base 4 "reaches" 3 F_reaches := by
  have c_held_in := ok_held_in (P := P) (w := w) (base := base) S
  have sc := sc_reaches
  have hN := sc.nd
  refine (Fn1.ok (k := 3) S.f_reaches sc rfl (fun cdv A outer s H E f hr tk hp => ?_) (fun _ _ _ _ _ _ us hl => match us, hl with | [_, _, _], _ => rfl))
  have hu := hr.units
  exact (by unfold b_reaches; exact (dss_cons (ds_asg (dg_t rfl (dgs_cons (dg_n 3 hN) (dgs_cons (dg_n 4 hN) dgs_nil))) (de_callF c_held_in tk (hr.mono (by omega)) (da_cons (de_v 0) (da_cons (de_v 2) da_nil))))
    (dss_one (ds_ret (de_cmp opD_ge (de_v 3) (de_op opD_mul (de_v 1) (de_v 4)))))))
/-! ### first_reach -/
theorem sc_first_reach : FnScope ["plan", "goal", "low", "high", "middle"] ["plan", "goal"] (defScope (top 23)) := ⟨rfl, rfl, rfl, by decide +kernel, rfl, by decide +kernel, by decide +kernel⟩
@[irreducible] noncomputable def b_first_reach_1 : FS := (sSeq (sAsg (e2 fdivD (e2 addD (gv 2) (gv 3)) (cst (.int 2))) (bN 4))
    (sAsg (ifE (tru (eCall 3 F_reaches (aCons (gv 0) (aCons (gv 1) (aCons (gv 4) aNil))))) (mkT (aCons (gv 2) (aCons (gv 4) aNil))) (mkT (aCons (e2 addD (gv 4) (cst (.int 1))) (aCons (gv 3) aNil)))) (bT [(bN 2), (bN 3)])))
@[irreducible] noncomputable def b_first_reach : FS := (sSeq (sIf (notT (tru (eCall 3 F_reaches (aCons (gv 0) (aCons (gv 1) (aCons (cst (.int 1000)) aNil)))))) (sRet (cst .non)) sNil)
    (sSeq (sPar 2 3 (cst (.int 0)) (cst (.int 1000)))
    (sSeq (whl (tst (e2 ltI (gv 2) (gv 3))) b_first_reach_1 fuel)
    (sRet (gv 2)))))
noncomputable def F_first_reach : FF := runF 5 (b_first_reach)
theorem ok_first_reach {P : Program} {w : World} {K : PySem.W.Frag} {mg : Str → Option Value} {base : Heap} (S : Fx K mg) : FOk P w K mg base 5 "first_reach" 2 F_first_reach := by
  have c_reaches := ok_reaches (P := P) (w := w) (base := base) S
  have sc := sc_first_reach
  have hN := sc.nd
  refine (Fn1.ok (k := 4) S.f_first_reach sc rfl (fun cdv A outer s H E f hr tk hp => ?_) (fun _ _ _ _ _ _ us hl => match us, hl with | [_, _], _ => rfl))
  have hu := hr.units
  exact (by unfold b_first_reach b_first_reach_1; exact (dss_cons (ds_if (dt_not (dt_tru (de_callF c_reaches tk (hr.mono (by omega)) (da_cons (de_v 0) (da_cons (de_v 1) (da_cons (de_gint S.i_FAR) da_nil)))))) (dss_one (ds_ret de_non)) dss_nil)
    (dss_cons (ds_par 2 3 rfl hN de_int (de_gint S.i_FAR))
    (dss_cons (ds_while hp (dt_cmp opD_lt (de_v 2) (de_v 3)) (dss_cons (ds_set 4 hN (de_op opD_fdiv (de_op opD_add (de_v 2) (de_v 3)) de_int))
    (dss_one (ds_asg (dg_t rfl (dgs_cons (dg_n 2 hN) (dgs_cons (dg_n 3 hN) dgs_nil))) (de_if (dt_tru (de_callF c_reaches tk (hr.mono (by omega)) (da_cons (de_v 0) (da_cons (de_v 1) (da_cons (de_v 4) da_nil))))) (de_tup (da_cons (de_v 2) (da_cons (de_v 4) da_nil))) (de_tup (da_cons (de_op opD_add (de_v 4) de_int) (da_cons (de_v 3) da_nil))))))))
    (dss_one (ds_ret (de_v 2)))))))
/-! ### ceiling -/
theorem sc_ceiling : FnScope ["top", "below"] ["top", "below"] (defScope (top 24)) := ⟨rfl, rfl, rfl, by decide +kernel, rfl, by decide +kernel, by decide +kernel⟩
@[irreducible] noncomputable def b_ceiling : FS := (sRet (eL max2D (aCons (cst (.int 0)) (aCons (e1 negD (e2 fdivD (e1 negD (gv 0)) (gv 1))) aNil))))
noncomputable def F_ceiling : FF := runF 2 (b_ceiling)
theorem ok_ceiling {P : Program} {w : World} {K : PySem.W.Frag} {mg : Str → Option Value} {base : Heap} (S : Fx K mg) : FOk P w K mg base 1 "ceiling" 2 F_ceiling := by
  have sc := sc_ceiling
  have hN := sc.nd
  refine (Fn1.ok (k := 0) S.f_ceiling sc rfl (fun cdv A outer s H E f hr tk hp => ?_) (fun _ _ _ _ _ _ us hl => match us, hl with | [_, _], _ => rfl))
  have hu := hr.units
  exact (by unfold b_ceiling; exact (dss_one (ds_ret (de_callB (callD_max2 rfl) S.b_max rfl (da_cons de_int (da_cons (de_un unD_neg (de_op opD_fdiv (de_un unD_neg (de_v 0)) (de_v 1))) da_nil))))))
/-! ### is_plan -/
theorem sc_is_plan : FnScope ["value"] ["value"] (defScope (top 25)) := ⟨rfl, rfl, rfl, by decide +kernel, rfl, by decide +kernel, by decide +kernel⟩
@[irreducible] noncomputable def b_is_plan : FS := (sRet (eCall 1 F_fits_plan (aCons (gv 0) aNil)))
noncomputable def F_is_plan : FF := runF 1 (b_is_plan)
theorem ok_is_plan {P : Program} {w : World} {K : PySem.W.Frag} {mg : Str → Option Value} {base : Heap} (S : Fx K mg) : FOk P w K mg base 4 "is_plan" 1 F_is_plan := by
  have c_fits_plan := ok_fits_plan (P := P) (w := w) (base := base) S
  have sc := sc_is_plan
  have hN := sc.nd
  refine (Fn1.ok (k := 3) S.f_is_plan sc rfl (fun cdv A outer s H E f hr tk hp => ?_) (fun _ _ _ _ _ _ us hl => match us, hl with | [_], _ => rfl))
  have hu := hr.units
  exact (by unfold b_is_plan; exact (dss_one (ds_ret (de_callF c_fits_plan tk (hr.mono (by omega)) (da_cons (de_v 0) da_nil)))))
/-! ### balance -/
theorem sc_balance : FnScope ["plan", "periods", "top", "below"] ["plan", "periods"] (defScope (top 26)) := ⟨rfl, rfl, rfl, by decide +kernel, rfl, by decide +kernel, by decide +kernel⟩
@[irreducible] noncomputable def b_balance : FS := (sSeq (sExp (eCall 1 F_need_plan (aCons (gv 0) aNil)))
    (sSeq (sExp (eCall 3 F_need_number (aCons (gv 1) (aCons (cst (.int 0)) (aCons (cst (.int 300)) aNil)))))
    (sSeq (sAsg (eCall 2 F_held_in (aCons (gv 0) (aCons (gv 1) aNil))) (bT [(bN 2), (bN 3)]))
    (sRet (eCall 2 F_lowest (aCons (gv 2) (aCons (gv 3) aNil)))))))
noncomputable def F_balance : FF := runF 4 (b_balance)
theorem ok_balance {P : Program} {w : World} {K : PySem.W.Frag} {mg : Str → Option Value} {base : Heap} (S : Fx K mg) : FOk P w K mg base 5 "balance" 2 F_balance := by
  have c_held_in := ok_held_in (P := P) (w := w) (base := base) S
  have c_lowest := ok_lowest (P := P) (w := w) (base := base) S
  have c_need_number := ok_need_number (P := P) (w := w) (base := base) S
  have c_need_plan := ok_need_plan (P := P) (w := w) (base := base) S
  have sc := sc_balance
  have hN := sc.nd
  refine (Fn1.ok (k := 4) S.f_balance sc rfl (fun cdv A outer s H E f hr tk hp => ?_) (fun _ _ _ _ _ _ us hl => match us, hl with | [_, _], _ => rfl))
  have hu := hr.units
  exact (by unfold b_balance; exact (dss_cons (ds_exp (de_callF c_need_plan tk (hr.mono (by omega)) (da_cons (de_v 0) da_nil)))
    (dss_cons (ds_exp (de_callF c_need_number tk (hr.mono (by omega)) (da_cons (de_v 1) (da_cons de_int (da_cons (de_gint S.i_PERIODS) da_nil)))))
    (dss_cons (ds_asg (dg_t rfl (dgs_cons (dg_n 2 hN) (dgs_cons (dg_n 3 hN) dgs_nil))) (de_callF c_held_in tk (hr.mono (by omega)) (da_cons (de_v 0) (da_cons (de_v 1) da_nil))))
    (dss_one (ds_ret (de_callF c_lowest tk (hr.mono (by omega)) (da_cons (de_v 2) (da_cons (de_v 3) da_nil)))))))))
/-! ### whole_balance -/
theorem sc_whole_balance : FnScope ["plan", "periods", "found", "deposit", "many", "of", "turn"] ["plan", "periods"] (defScope (top 27)) := ⟨rfl, rfl, rfl, by decide +kernel, rfl, by decide +kernel, by decide +kernel⟩
@[irreducible] noncomputable def b_whole_balance_1 : FS := (sAsg (e2 addD (e2 addD (gv 2) (e2 fdivD (e2 mulD (gv 2) (gv 4)) (gv 5))) (gv 3)) (bN 2))
@[irreducible] noncomputable def b_whole_balance : FS := (sSeq (sExp (eCall 1 F_need_plan (aCons (gv 0) aNil)))
    (sSeq (sExp (eCall 3 F_need_number (aCons (gv 1) (aCons (cst (.int 0)) (aCons (cst (.int 300)) aNil)))))
    (sSeq (sAsg (gv 0) (bT [(bN 2), (bN 3), (bN 4), (bN 5)]))
    (sSeq (sFor fuel (iRng1 (aCons (gv 1) aNil)) (bN 6) b_whole_balance_1)
    (sRet (gv 2))))))
noncomputable def F_whole_balance : FF := runF 7 (b_whole_balance)
theorem ok_whole_balance {P : Program} {w : World} {K : PySem.W.Frag} {mg : Str → Option Value} {base : Heap} (S : Fx K mg) : FOk P w K mg base 5 "whole_balance" 2 F_whole_balance := by
  have c_need_number := ok_need_number (P := P) (w := w) (base := base) S
  have c_need_plan := ok_need_plan (P := P) (w := w) (base := base) S
  have sc := sc_whole_balance
  have hN := sc.nd
  refine (Fn1.ok (k := 4) S.f_whole_balance sc rfl (fun cdv A outer s H E f hr tk hp => ?_) (fun _ _ _ _ _ _ us hl => match us, hl with | [_, _], _ => rfl))
  have hu := hr.units
  exact (by unfold b_whole_balance b_whole_balance_1; exact (dss_cons (ds_exp (de_callF c_need_plan tk (hr.mono (by omega)) (da_cons (de_v 0) da_nil)))
    (dss_cons (ds_exp (de_callF c_need_number tk (hr.mono (by omega)) (da_cons (de_v 1) (da_cons de_int (da_cons (de_gint S.i_PERIODS) da_nil)))))
    (dss_cons (ds_asg (dg_t rfl (dgs_cons (dg_n 2 hN) (dgs_cons (dg_n 3 hN) (dgs_cons (dg_n 4 hN) (dgs_cons (dg_n 5 hN) dgs_nil))))) (de_v 0))
    (dss_cons (ds_for hp rfl (di_range1 S.b_range (da_cons (de_v 1) da_nil)) (dg_n 6 hN) (dss_one (ds_set 2 hN (de_op opD_add (de_op opD_add (de_v 2) (de_op opD_fdiv (de_op opD_mul (de_v 2) (de_v 4)) (de_v 5))) (de_v 3)))))
    (dss_one (ds_ret (de_v 2))))))))
/-! ### periods_to -/
theorem sc_periods_to : FnScope ["plan", "goal"] ["plan", "goal"] (defScope (top 28)) := ⟨rfl, rfl, rfl, by decide +kernel, rfl, by decide +kernel, by decide +kernel⟩
@[irreducible] noncomputable def b_periods_to : FS := (sSeq (sExp (eCall 1 F_need_plan (aCons (gv 0) aNil)))
    (sSeq (sExp (eCall 3 F_need_number (aCons (gv 1) (aCons (cst (.int 1)) (aCons (cst (.int 1000000000)) aNil)))))
    (sRet (eCall 2 F_first_reach (aCons (gv 0) (aCons (gv 1) aNil))))))
noncomputable def F_periods_to : FF := runF 2 (b_periods_to)
theorem ok_periods_to {P : Program} {w : World} {K : PySem.W.Frag} {mg : Str → Option Value} {base : Heap} (S : Fx K mg) : FOk P w K mg base 6 "periods_to" 2 F_periods_to := by
  have c_first_reach := ok_first_reach (P := P) (w := w) (base := base) S
  have c_need_number := ok_need_number (P := P) (w := w) (base := base) S
  have c_need_plan := ok_need_plan (P := P) (w := w) (base := base) S
  have sc := sc_periods_to
  have hN := sc.nd
  refine (Fn1.ok (k := 5) S.f_periods_to sc rfl (fun cdv A outer s H E f hr tk hp => ?_) (fun _ _ _ _ _ _ us hl => match us, hl with | [_, _], _ => rfl))
  have hu := hr.units
  exact (by unfold b_periods_to; exact (dss_cons (ds_exp (de_callF c_need_plan tk (hr.mono (by omega)) (da_cons (de_v 0) da_nil)))
    (dss_cons (ds_exp (de_callF c_need_number tk (hr.mono (by omega)) (da_cons (de_v 1) (da_cons de_int (da_cons (de_gint S.i_GOAL) da_nil)))))
    (dss_one (ds_ret (de_callF c_first_reach tk (hr.mono (by omega)) (da_cons (de_v 0) (da_cons (de_v 1) da_nil))))))))
/-! ### least_deposit -/
theorem sc_least_deposit : FnScope ["plan", "goal", "periods", "grown", "puts", "below"] ["plan", "goal", "periods"] (defScope (top 29)) := ⟨rfl, rfl, rfl, by decide +kernel, rfl, by decide +kernel, by decide +kernel⟩
@[irreducible] noncomputable def b_least_deposit : FS := (sSeq (sExp (eCall 1 F_need_plan (aCons (gv 0) aNil)))
    (sSeq (sExp (eCall 3 F_need_number (aCons (gv 1) (aCons (cst (.int 1)) (aCons (cst (.int 1000000000)) aNil)))))
    (sSeq (sExp (eCall 3 F_need_number (aCons (gv 2) (aCons (cst (.int 1)) (aCons (cst (.int 300)) aNil)))))
    (sSeq (sAsg (eCall 2 F_parts_in (aCons (gv 0) (aCons (gv 2) aNil))) (bT [(bN 3), (bN 4), (bN 5)]))
    (sRet (eCall 2 F_ceiling (aCons (e2 subD (e2 mulD (gv 1) (gv 5)) (e2 mulD (e2 ixD (gv 0) (cst (.int 0))) (gv 3))) (aCons (gv 4) aNil))))))))
noncomputable def F_least_deposit : FF := runF 6 (b_least_deposit)
theorem ok_least_deposit {P : Program} {w : World} {K : PySem.W.Frag} {mg : Str → Option Value} {base : Heap} (S : Fx K mg) : FOk P w K mg base 5 "least_deposit" 3 F_least_deposit := by
  have c_ceiling := ok_ceiling (P := P) (w := w) (base := base) S
  have c_need_number := ok_need_number (P := P) (w := w) (base := base) S
  have c_need_plan := ok_need_plan (P := P) (w := w) (base := base) S
  have c_parts_in := ok_parts_in (P := P) (w := w) (base := base) S
  have sc := sc_least_deposit
  have hN := sc.nd
  refine (Fn1.ok (k := 4) S.f_least_deposit sc rfl (fun cdv A outer s H E f hr tk hp => ?_) (fun _ _ _ _ _ _ us hl => match us, hl with | [_, _, _], _ => rfl))
  have hu := hr.units
  exact (by unfold b_least_deposit; exact (dss_cons (ds_exp (de_callF c_need_plan tk (hr.mono (by omega)) (da_cons (de_v 0) da_nil)))
    (dss_cons (ds_exp (de_callF c_need_number tk (hr.mono (by omega)) (da_cons (de_v 1) (da_cons de_int (da_cons (de_gint S.i_GOAL) da_nil)))))
    (dss_cons (ds_exp (de_callF c_need_number tk (hr.mono (by omega)) (da_cons (de_v 2) (da_cons de_int (da_cons (de_gint S.i_PERIODS) da_nil)))))
    (dss_cons (ds_asg (dg_t rfl (dgs_cons (dg_n 3 hN) (dgs_cons (dg_n 4 hN) (dgs_cons (dg_n 5 hN) dgs_nil)))) (de_callF c_parts_in tk (hr.mono (by omega)) (da_cons (de_v 0) (da_cons (de_v 2) da_nil))))
    (dss_one (ds_ret (de_callF c_ceiling tk (hr.mono (by omega)) (da_cons (de_op opD_sub (de_op opD_mul (de_v 1) (de_v 5)) (de_op opD_mul (de_ix ixD_seq (de_v 0) de_int) (de_v 3))) (da_cons (de_v 4) da_nil))))))))))
/-! ### least_start -/
theorem sc_least_start : FnScope ["plan", "goal", "periods", "grown", "puts", "below"] ["plan", "goal", "periods"] (defScope (top 30)) := ⟨rfl, rfl, rfl, by decide +kernel, rfl, by decide +kernel, by decide +kernel⟩
@[irreducible] noncomputable def b_least_start : FS := (sSeq (sExp (eCall 1 F_need_plan (aCons (gv 0) aNil)))
    (sSeq (sExp (eCall 3 F_need_number (aCons (gv 1) (aCons (cst (.int 1)) (aCons (cst (.int 1000000000)) aNil)))))
    (sSeq (sExp (eCall 3 F_need_number (aCons (gv 2) (aCons (cst (.int 1)) (aCons (cst (.int 300)) aNil)))))
    (sSeq (sAsg (eCall 2 F_parts_in (aCons (gv 0) (aCons (gv 2) aNil))) (bT [(bN 3), (bN 4), (bN 5)]))
    (sRet (eCall 2 F_ceiling (aCons (e2 subD (e2 mulD (gv 1) (gv 5)) (e2 mulD (e2 ixD (gv 0) (cst (.int 1))) (gv 4))) (aCons (gv 3) aNil))))))))
noncomputable def F_least_start : FF := runF 6 (b_least_start)
theorem ok_least_start {P : Program} {w : World} {K : PySem.W.Frag} {mg : Str → Option Value} {base : Heap} (S : Fx K mg) : FOk P w K mg base 5 "least_start" 3 F_least_start := by
  have c_ceiling := ok_ceiling (P := P) (w := w) (base := base) S
  have c_need_number := ok_need_number (P := P) (w := w) (base := base) S
  have c_need_plan := ok_need_plan (P := P) (w := w) (base := base) S
  have c_parts_in := ok_parts_in (P := P) (w := w) (base := base) S
  have sc := sc_least_start
  have hN := sc.nd
  refine (Fn1.ok (k := 4) S.f_least_start sc rfl (fun cdv A outer s H E f hr tk hp => ?_) (fun _ _ _ _ _ _ us hl => match us, hl with | [_, _, _], _ => rfl))
  have hu := hr.units
  exact (by unfold b_least_start; exact (dss_cons (ds_exp (de_callF c_need_plan tk (hr.mono (by omega)) (da_cons (de_v 0) da_nil)))
    (dss_cons (ds_exp (de_callF c_need_number tk (hr.mono (by omega)) (da_cons (de_v 1) (da_cons de_int (da_cons (de_gint S.i_GOAL) da_nil)))))
    (dss_cons (ds_exp (de_callF c_need_number tk (hr.mono (by omega)) (da_cons (de_v 2) (da_cons de_int (da_cons (de_gint S.i_PERIODS) da_nil)))))
    (dss_cons (ds_asg (dg_t rfl (dgs_cons (dg_n 3 hN) (dgs_cons (dg_n 4 hN) (dgs_cons (dg_n 5 hN) dgs_nil)))) (de_callF c_parts_in tk (hr.mono (by omega)) (da_cons (de_v 0) (da_cons (de_v 2) da_nil))))
    (dss_one (ds_ret (de_callF c_ceiling tk (hr.mono (by omega)) (da_cons (de_op opD_sub (de_op opD_mul (de_v 1) (de_v 5)) (de_op opD_mul (de_ix ixD_seq (de_v 0) de_int) (de_v 4))) (da_cons (de_v 3) da_nil))))))))))
/-! ### times_to -/
theorem sc_times_to : FnScope ["plan", "top", "below", "coin"] ["plan", "top", "below"] (defScope (top 31)) := ⟨rfl, rfl, rfl, by decide +kernel, rfl, by decide +kernel, by decide +kernel⟩
@[irreducible] noncomputable def b_times_to : FS := (sSeq (sExp (eCall 1 F_need_plan (aCons (gv 0) aNil)))
    (sSeq (sExp (eCall 3 F_need_number (aCons (gv 2) (aCons (cst (.int 1)) (aCons (cst (.int 1000)) aNil)))))
    (sSeq (sExp (eCall 3 F_need_number (aCons (gv 1) (aCons (gv 2) (aCons (cst (.int 1000)) aNil)))))
    (sSeq (sAsg (mkT (aCons (gv 2) (aCons (cst (.int 0)) (aCons (e2 ixD (gv 0) (cst (.int 2))) (aCons (e2 ixD (gv 0) (cst (.int 3))) aNil))))) (bN 3))
    (sRet (eCall 2 F_first_reach (aCons (gv 3) (aCons (gv 1) aNil))))))))
noncomputable def F_times_to : FF := runF 4 (b_times_to)
theorem ok_times_to {P : Program} {w : World} {K : PySem.W.Frag} {mg : Str → Option Value} {base : Heap} (S : Fx K mg) : FOk P w K mg base 6 "times_to" 3 F_times_to := by
  have c_first_reach := ok_first_reach (P := P) (w := w) (base := base) S
  have c_need_number := ok_need_number (P := P) (w := w) (base := base) S
  have c_need_plan := ok_need_plan (P := P) (w := w) (base := base) S
  have sc := sc_times_to
  have hN := sc.nd
  refine (Fn1.ok (k := 5) S.f_times_to sc rfl (fun cdv A outer s H E f hr tk hp => ?_) (fun _ _ _ _ _ _ us hl => match us, hl with | [_, _, _], _ => rfl))
  have hu := hr.units
  exact (by unfold b_times_to; exact (dss_cons (ds_exp (de_callF c_need_plan tk (hr.mono (by omega)) (da_cons (de_v 0) da_nil)))
    (dss_cons (ds_exp (de_callF c_need_number tk (hr.mono (by omega)) (da_cons (de_v 2) (da_cons de_int (da_cons (de_gint S.i_FAR) da_nil)))))
    (dss_cons (ds_exp (de_callF c_need_number tk (hr.mono (by omega)) (da_cons (de_v 1) (da_cons (de_v 2) (da_cons (de_gint S.i_FAR) da_nil)))))
    (dss_cons (ds_set 3 hN (de_tup (da_cons (de_v 2) (da_cons de_int (da_cons (de_ix ixD_seq (de_v 0) de_int) (da_cons (de_ix ixD_seq (de_v 0) de_int) da_nil))))))
    (dss_one (ds_ret (de_callF c_first_reach tk (hr.mono (by omega)) (da_cons (de_v 3) (da_cons (de_v 1) da_nil))))))))))
/-! ### _law_cup -/
theorem sc__law_cup : FnScope ["script", "cell"] ["script"] (defScope (top 33)) := ⟨rfl, rfl, rfl, by decide +kernel, rfl, by decide +kernel, by decide +kernel⟩
@[irreducible] noncomputable def b__law_cup : FS := (sSeq (sAsg (eL absD (aCons (e2 ixD (e2 addD (eL listD (aCons (gv 0) aNil)) (mkL (aCons (cst (.int 0)) aNil))) (cst (.int 0))) aNil)) (bN 1))
    (sRet (mkO (aCons (ifE (tst (e2 geI (gv 1) (e2 powD (cst (.int 10)) (cst (.int 18))))) (e2 fdivD (gv 1) (cst (.int 89))) (cst (.int 0))) (aCons (e2 addD (e2 modD (eL intD (aCons (e2 addD (e2 mulD (gv 1) (cst (.int 331))) (cst (.int 3919))) aNil)) (cst (.int 2077502087))) (cst (.int 199))) aNil)))))
noncomputable def F__law_cup : FF := runF 2 (b__law_cup)
theorem ok__law_cup {P : Program} {w : World} {K : PySem.W.Frag} {mg : Str → Option Value} {base : Heap} (S : Fx K mg) : FOk P w K mg base 1 "_law_cup" 1 F__law_cup := by
  have sc := sc__law_cup
  have hN := sc.nd
  refine (Fn1.ok (k := 0) S.f__law_cup sc rfl (fun cdv A outer s H E f hr tk hp => ?_) (fun _ _ _ _ _ _ us hl => match us, hl with | [_], _ => rfl))
  have hu := hr.units
  exact (by unfold b__law_cup; exact (dss_cons (ds_set 1 hN (de_callB callD_abs S.b_abs rfl (da_cons (de_ix ixD_seq (de_op opD_add (de_callTy callD_list S.b_list rfl (da_cons (de_v 0) da_nil)) (de_lst (da_cons de_int da_nil))) de_int) da_nil)))
    (dss_one (ds_ret (de_lstO (da_cons (de_if (dt_cmp opD_ge (de_v 1) (de_op opD_pow de_int de_int)) (de_op opD_fdiv (de_v 1) de_int) de_int) (da_cons (de_op opD_add (de_op opD_mod (de_callTy callD_int S.b_int rfl (da_cons (de_op opD_add (de_op opD_mul (de_v 1) de_int) de_int) da_nil)) de_int) de_int) da_nil)))))))
/-! ### _law_roll -/
theorem sc__law_roll : FnScope ["cup", "many", "found", "deep"] ["cup", "many"] (defScope (top 34)) := ⟨rfl, rfl, rfl, by decide +kernel, rfl, by decide +kernel, by decide +kernel⟩
@[irreducible] noncomputable def b__law_roll : FS := (sSeq (sIf (tst (e2 gtI (e2 ixD (gv 0) (cst (.int 0))) (cst (.int 0)))) (sSeq (sAsg (e2 modD (eL intD (aCons (e2 ixD (gv 0) (cst (.int 0))) aNil)) (gv 1)) (bN 2))
    (sSeq (sSetIx setD (e2 fdivD (e2 ixD (gv 0) (cst (.int 0))) (gv 1)) (gv 0) (cst (.int 0)))
    (sRet (gv 2)))) sNil)
    (sSeq (sSetIx setD (e2 modD (eL intD (aCons (e2 addD (e2 mulD (e2 ixD (gv 0) (cst (.int 1))) (cst (.int 30713))) (cst (.int 7759))) aNil)) (cst (.int 2147482951))) (gv 0) (cst (.int 1)))
    (sSeq (sAsg (e2 modD (eL intD (aCons (e2 mulD (e2 ixD (gv 0) (cst (.int 1))) (e2 addD (e2 ixD (gv 0) (cst (.int 1))) (cst (.int 229)))) aNil)) (cst (.int 2147483059))) (bN 3))
    (sRet (e2 modD (eL intD (aCons (e2 fdivD (gv 3) (cst (.int 827))) aNil)) (gv 1))))))
noncomputable def F__law_roll : FF := runF 4 (b__law_roll)
theorem ok__law_roll {P : Program} {w : World} {K : PySem.W.Frag} {mg : Str → Option Value} {base : Heap} (S : Fx K mg) : FOk P w K mg base 1 "_law_roll" 2 F__law_roll := by
  have sc := sc__law_roll
  have hN := sc.nd
  refine (Fn1.ok (k := 0) S.f__law_roll sc rfl (fun cdv A outer s H E f hr tk hp => ?_) (fun _ _ _ _ _ _ us hl => match us, hl with | [_, _], _ => rfl))
  have hu := hr.units
  exact (by unfold b__law_roll; exact (dss_cons (ds_if (dt_cmp opD_gt (de_ix ixD_seq (de_v 0) de_int) de_int) (dss_cons (ds_set 2 hN (de_op opD_mod (de_callTy callD_int S.b_int rfl (da_cons (de_ix ixD_seq (de_v 0) de_int) da_nil)) (de_v 1)))
    (dss_cons (ds_setIx (setD_ok hu) (de_op opD_fdiv (de_ix ixD_seq (de_v 0) de_int) (de_v 1)) (de_v 0) de_int)
    (dss_one (ds_ret (de_v 2))))) dss_nil)
    (dss_cons (ds_setIx (setD_ok hu) (de_op opD_mod (de_callTy callD_int S.b_int rfl (da_cons (de_op opD_add (de_op opD_mul (de_ix ixD_seq (de_v 0) de_int) de_int) de_int) da_nil)) de_int) (de_v 0) de_int)
    (dss_cons (ds_set 3 hN (de_op opD_mod (de_callTy callD_int S.b_int rfl (da_cons (de_op opD_mul (de_ix ixD_seq (de_v 0) de_int) (de_op opD_add (de_ix ixD_seq (de_v 0) de_int) de_int)) da_nil)) de_int))
    (dss_one (ds_ret (de_op opD_mod (de_callTy callD_int S.b_int rfl (da_cons (de_op opD_fdiv (de_v 3) de_int) da_nil)) (de_v 1))))))))
/-! ### _law_some -/
theorem sc__law_some : FnScope ["cup", "things"] ["cup", "things"] (defScope (top 35)) := ⟨rfl, rfl, rfl, by decide +kernel, rfl, by decide +kernel, by decide +kernel⟩
@[irreducible] noncomputable def b__law_some : FS := (sRet (e2 ixD (gv 1) (eCall 2 F__law_roll (aCons (gv 0) (aCons (eL lenD (aCons (gv 1) aNil)) aNil)))))
noncomputable def F__law_some : FF := runF 2 (b__law_some)
theorem ok__law_some {P : Program} {w : World} {K : PySem.W.Frag} {mg : Str → Option Value} {base : Heap} (S : Fx K mg) : FOk P w K mg base 2 "_law_some" 2 F__law_some := by
  have c__law_roll := ok__law_roll (P := P) (w := w) (base := base) S
  have sc := sc__law_some
  have hN := sc.nd
  refine (Fn1.ok (k := 1) S.f__law_some sc rfl (fun cdv A outer s H E f hr tk hp => ?_) (fun _ _ _ _ _ _ us hl => match us, hl with | [_, _], _ => rfl))
  have hu := hr.units
  exact (by unfold b__law_some; exact (dss_one (ds_ret (de_ix ixD_seq (de_v 1) (de_callF c__law_roll tk (hr.mono (by omega)) (da_cons (de_v 0) (da_cons (de_callB callD_len S.b_len rfl (da_cons (de_v 1) da_nil)) da_nil)))))))
/-! ### _law_same -/
theorem sc__law_same : FnScope ["told", "due", "at"] ["told", "due"] (defScope (top 36)) := ⟨rfl, rfl, rfl, by decide +kernel, rfl, by decide +kernel, by decide +kernel⟩
@[irreducible] noncomputable def b__law_same (F : FF) : FS := (sSeq (sIf (tru (eL isiD (aCons (gv 1) (aCons (cst (.ty "tuple")) aNil)))) (sSeq (sIf (orT (notT (tru (eL isiD (aCons (gv 0) (aCons (cst (.ty "tuple")) aNil))))) (tst (e2 neD (eL lenD (aCons (gv 0) aNil)) (eL lenD (aCons (gv 1) aNil))))) (sRet (cst (.bl false))) sNil)
    (sRet (eL allD (aCons (lc fuel [2] (iRng1 (aCons (eL lenD (aCons (gv 1) aNil)) aNil)) (bN 2) yes (eCall 2 F (aCons (e2 ixD (gv 0) (gv 2)) (aCons (e2 ixD (gv 1) (gv 2)) aNil)))) aNil)))) sNil)
    (sSeq (sIf (tst (e2 isD (gv 1) (cst .non))) (sRet (e2 isD (gv 0) (cst .non))) sNil)
    (sSeq (sIf (tru (eL isiD (aCons (gv 1) (aCons (cst (.ty "bool")) aNil)))) (sRet (ifE (tru (gv 1)) (e2 isD (gv 0) (cst (.bl true))) (e2 isD (gv 0) (cst (.bl false))))) sNil)
    (sSeq (sIf (tru (eL isiD (aCons (gv 1) (aCons (cst (.ty "int")) aNil)))) (sRet (andE (eL isiD (aCons (gv 0) (aCons (cst (.ty "int")) aNil))) (andE (notE (eL isiD (aCons (gv 0) (aCons (cst (.ty "bool")) aNil)))) (e2 eqD (eL intD (aCons (gv 0) aNil)) (gv 1))))) sNil)
    (sRet (andE (eL isiD (aCons (gv 0) (aCons (cst (.ty "str")) aNil))) (e2 eqD (eL strD (aCons (gv 0) aNil)) (gv 1))))))))
noncomputable def F__law_same : Nat → FF
  | 0 => noF
  | m + 1 => let F := F__law_same m; runF 3 (b__law_same F)
theorem ok__law_same {P : Program} {w : World} {K : PySem.W.Frag} {mg : Str → Option Value} {base : Heap} (S : Fx K mg) : ∀ m : Nat, FOk P w K mg base (0 + m) "_law_same" 2 (F__law_same m)
  | 0 => ⟨S.f__law_same.g, let ⟨_, F⟩ := S.f__law_same.f; F.kp, let ⟨_, F⟩ := S.f__law_same.f; ⟨_, ["told", "due"], fn_no, F.bindsN fun _ _ _ _ _ _ us hl => match us, hl with | [_, _], _ => rfl⟩⟩
  | m + 1 => by
    have ih := ok__law_same (P := P) (w := w) (base := base) S m
    have sc := sc__law_same
    have hN := sc.nd
    refine (Fn1.ok (k := 0 + m) S.f__law_same sc rfl (fun cdv A outer s H E f hr tk hp => ?_) (fun _ _ _ _ _ _ us hl => match us, hl with | [_, _], _ => rfl))
    have hu := hr.units
    exact (by unfold b__law_same; exact (dss_cons (ds_if (dt_tru (de_callB callD_isi S.b_isinstance rfl (da_cons (de_v 1) (da_cons (de_ty S.b_tuple rfl) da_nil)))) (dss_cons (ds_if (dt_w (dw_or (dt_not (dt_tru (de_callB callD_isi S.b_isinstance rfl (da_cons (de_v 0) (da_cons (de_ty S.b_tuple rfl) da_nil))))) (dw_or1 (dt_cmp (opD_ne hu) (de_callB callD_len S.b_len rfl (da_cons (de_v 0) da_nil)) (de_callB callD_len S.b_len rfl (da_cons (de_v 1) da_nil)))))) (dss_one (ds_ret de_bl)) dss_nil)
    (dss_one (ds_ret (de_callB (callD_all rfl) S.b_all rfl (da_cons (de_lc rfl hN (di_range1 S.b_range (da_cons (de_callB callD_len S.b_len rfl (da_cons (de_v 1) da_nil)) da_nil)) (blkOk_by (own := [("at", 2)]) (by kernel_rfl)) (fun _ _ _ _ _ => (dg_n 2 hN)) (fun _ _ _ _ _ => dts_nil) (fun _ _ _ _ _ => (de_callF ih takes0 (hr.mono (by omega)) (da_cons (de_ix ixD_seq (de_v 0) (de_v 2)) (da_cons (de_ix ixD_seq (de_v 1) (de_v 2)) da_nil))))) da_nil))))) dss_nil)
    (dss_cons (ds_if (dt_cmp opD_is (de_v 1) de_non) (dss_one (ds_ret (de_cmp opD_is (de_v 0) de_non))) dss_nil)
    (dss_cons (ds_if (dt_tru (de_callB callD_isi S.b_isinstance rfl (da_cons (de_v 1) (da_cons (de_ty S.b_bool rfl) da_nil)))) (dss_one (ds_ret (de_if (dt_tru (de_v 1)) (de_cmp opD_is (de_v 0) de_bl) (de_cmp opD_is (de_v 0) de_bl)))) dss_nil)
    (dss_cons (ds_if (dt_tru (de_callB callD_isi S.b_isinstance rfl (da_cons (de_v 1) (da_cons (de_ty S.b_int rfl) da_nil)))) (dss_one (ds_ret (de_and (de_callB callD_isi S.b_isinstance rfl (da_cons (de_v 0) (da_cons (de_ty S.b_int rfl) da_nil))) (de_and (de_not (de_callB callD_isi S.b_isinstance rfl (da_cons (de_v 0) (da_cons (de_ty S.b_bool rfl) da_nil)))) (de_one (de_cmp (opD_eq hu) (de_callTy callD_int S.b_int rfl (da_cons (de_v 0) da_nil)) (de_v 1))))))) dss_nil)
    (dss_one (ds_ret (de_and (de_callB callD_isi S.b_isinstance rfl (da_cons (de_v 0) (da_cons (de_ty S.b_str rfl) da_nil))) (de_one (de_cmp (opD_eq hu) (de_callTy callD_str S.b_str rfl (da_cons (de_v 0) da_nil)) (de_v 1)))))))))))
/-! ### _law_lowest -/
theorem sc__law_lowest : FnScope ["top", "below", "one", "other"] ["top", "below"] (defScope (top 37)) := ⟨rfl, rfl, rfl, by decide +kernel, rfl, by decide +kernel, by decide +kernel⟩
@[irreducible] noncomputable def b__law_lowest_1 : FS := (sPar 2 3 (gv 3) (e2 modD (eL intD (aCons (gv 2) aNil)) (gv 3)))
@[irreducible] noncomputable def b__law_lowest : FS := (sSeq (sPar 2 3 (eL absD (aCons (gv 0) aNil)) (gv 1))
    (sSeq (whl (tst (e2 gtI (gv 3) (cst (.int 0)))) b__law_lowest_1 fuel)
    (sRet (mkT (aCons (e2 fdivD (gv 0) (gv 2)) (aCons (e2 fdivD (gv 1) (gv 2)) aNil))))))
noncomputable def F__law_lowest : FF := runF 4 (b__law_lowest)
theorem ok__law_lowest {P : Program} {w : World} {K : PySem.W.Frag} {mg : Str → Option Value} {base : Heap} (S : Fx K mg) : FOk P w K mg base 1 "_law_lowest" 2 F__law_lowest := by
  have sc := sc__law_lowest
  have hN := sc.nd
  refine (Fn1.ok (k := 0) S.f__law_lowest sc rfl (fun cdv A outer s H E f hr tk hp => ?_) (fun _ _ _ _ _ _ us hl => match us, hl with | [_, _], _ => rfl))
  have hu := hr.units
  exact (by unfold b__law_lowest b__law_lowest_1; exact (dss_cons (ds_par 2 3 rfl hN (de_callB callD_abs S.b_abs rfl (da_cons (de_v 0) da_nil)) (de_v 1))
    (dss_cons (ds_while hp (dt_cmp opD_gt (de_v 3) de_int) (dss_one (ds_par 2 3 rfl hN (de_v 3) (de_op opD_mod (de_callTy callD_int S.b_int rfl (da_cons (de_v 2) da_nil)) (de_v 3)))))
    (dss_one (ds_ret (de_tup (da_cons (de_op opD_fdiv (de_v 0) (de_v 2)) (da_cons (de_op opD_fdiv (de_v 1) (de_v 2)) da_nil))))))))
/-! ### _law_plan -/
theorem sc__law_plan : FnScope ["cup", "far", "of", "below", "many"] ["cup", "far", "of"] (defScope (top 38)) := ⟨rfl, rfl, rfl, by decide +kernel, rfl, by decide +kernel, by decide +kernel⟩
@[irreducible] noncomputable def b__law_plan : FS := (sSeq (sAsg (e2 addD (cst (.int 1)) (eCall 2 F__law_roll (aCons (gv 0) (aCons (gv 2) aNil)))) (bN 3))
    (sSeq (sAsg (eCall 2 F__law_some (aCons (gv 0) (aCons (mkL (aCons (cst (.int 0)) (aCons (cst (.int 1)) (aCons (eCall 2 F__law_roll (aCons (gv 0) (aCons (e2 addD (gv 3) (cst (.int 1))) aNil))) aNil)))) aNil))) (bN 4))
    (sRet (mkT (aCons (eCall 2 F__law_some (aCons (gv 0) (aCons (mkL (aCons (cst (.int 0)) (aCons (eCall 2 F__law_roll (aCons (gv 0) (aCons (e2 addD (gv 1) (cst (.int 1))) aNil))) aNil))) aNil))) (aCons (eCall 2 F__law_some (aCons (gv 0) (aCons (mkL (aCons (cst (.int 0)) (aCons (eCall 2 F__law_roll (aCons (gv 0) (aCons (e2 addD (gv 1) (cst (.int 1))) aNil))) aNil))) aNil))) (aCons (eL min2D (aCons (gv 4) (aCons (gv 3) aNil))) (aCons (gv 3) aNil))))))))
noncomputable def F__law_plan : FF := runF 5 (b__law_plan)
theorem ok__law_plan {P : Program} {w : World} {K : PySem.W.Frag} {mg : Str → Option Value} {base : Heap} (S : Fx K mg) : FOk P w K mg base 3 "_law_plan" 3 F__law_plan := by
  have c__law_roll := ok__law_roll (P := P) (w := w) (base := base) S
  have c__law_some := ok__law_some (P := P) (w := w) (base := base) S
  have sc := sc__law_plan
  have hN := sc.nd
  refine (Fn1.ok (k := 2) S.f__law_plan sc rfl (fun cdv A outer s H E f hr tk hp => ?_) (fun _ _ _ _ _ _ us hl => match us, hl with | [_, _, _], _ => rfl))
  have hu := hr.units
  exact (by unfold b__law_plan; exact (dss_cons (ds_set 3 hN (de_op opD_add de_int (de_callF c__law_roll tk (hr.mono (by omega)) (da_cons (de_v 0) (da_cons (de_v 2) da_nil)))))
    (dss_cons (ds_set 4 hN (de_callF c__law_some tk (hr.mono (by omega)) (da_cons (de_v 0) (da_cons (de_lst (da_cons de_int (da_cons de_int (da_cons (de_callF c__law_roll tk (hr.mono (by omega)) (da_cons (de_v 0) (da_cons (de_op opD_add (de_v 3) de_int) da_nil))) da_nil)))) da_nil))))
    (dss_one (ds_ret (de_tup (da_cons (de_callF c__law_some tk (hr.mono (by omega)) (da_cons (de_v 0) (da_cons (de_lst (da_cons de_int (da_cons (de_callF c__law_roll tk (hr.mono (by omega)) (da_cons (de_v 0) (da_cons (de_op opD_add (de_v 1) de_int) da_nil))) da_nil))) da_nil))) (da_cons (de_callF c__law_some tk (hr.mono (by omega)) (da_cons (de_v 0) (da_cons (de_lst (da_cons de_int (da_cons (de_callF c__law_roll tk (hr.mono (by omega)) (da_cons (de_v 0) (da_cons (de_op opD_add (de_v 1) de_int) da_nil))) da_nil))) da_nil))) (da_cons (de_callB (callD_min2 rfl) S.b_min rfl (da_cons (de_v 4) (da_cons (de_v 3) da_nil))) (da_cons (de_v 3) da_nil))))))))))
/-! ### _law_steps -/
theorem sc__law_steps : FnScope ["plan", "periods", "start", "deposit", "many", "of", "found", "turn", "top", "below"] ["plan", "periods"] (defScope (top 39)) := ⟨rfl, rfl, rfl, by decide +kernel, rfl, by decide +kernel, by decide +kernel⟩
@[irreducible] noncomputable def b__law_steps_1 : FS := (sSeq (sAsg (e2 ixD (gv 6) (e1 negD (cst (.int 1)))) (bT [(bN 8), (bN 9)]))
    (sExp (eMt "list" appD (gv 6) (aCons (mkT (aCons (e2 addD (e2 mulD (gv 8) (e2 addD (gv 5) (gv 4))) (e2 mulD (e2 mulD (gv 3) (gv 9)) (gv 5))) (aCons (e2 mulD (gv 9) (gv 5)) aNil))) aNil))))
@[irreducible] noncomputable def b__law_steps : FS := (sSeq (sAsg (gv 0) (bT [(bN 2), (bN 3), (bN 4), (bN 5)]))
    (sSeq (sAsg (mkO (aCons (mkT (aCons (gv 2) (aCons (cst (.int 1)) aNil))) aNil)) (bN 6))
    (sSeq (sFor fuel (iRng1 (aCons (gv 1) aNil)) (bN 7) b__law_steps_1)
    (sRet (gv 6)))))
noncomputable def F__law_steps : FF := trimF (runF 10 (b__law_steps))
theorem ok__law_steps {P : Program} {w : World} {K : PySem.W.Frag} {mg : Str → Option Value} {base : Heap} (S : Fx K mg) : FOk P w K mg base 1 "_law_steps" 2 F__law_steps := by
  have sc := sc__law_steps
  have hN := sc.nd
  refine (Fn1.ok (k := 0) S.f__law_steps sc rfl (fun cdv A outer s H E f hr tk hp => ?_) (fun _ _ _ _ _ _ us hl => match us, hl with | [_, _], _ => rfl)).trim
  have hu := hr.units
  exact (by unfold b__law_steps b__law_steps_1; exact (dss_cons (ds_asg (dg_t rfl (dgs_cons (dg_n 2 hN) (dgs_cons (dg_n 3 hN) (dgs_cons (dg_n 4 hN) (dgs_cons (dg_n 5 hN) dgs_nil))))) (de_v 0))
    (dss_cons (ds_set 6 hN (de_lstO (da_cons (de_tup (da_cons (de_v 2) (da_cons de_int da_nil))) da_nil)))
    (dss_cons (ds_for hp rfl (di_range1 S.b_range (da_cons (de_v 1) da_nil)) (dg_n 7 hN) (dss_cons (ds_asg (dg_t rfl (dgs_cons (dg_n 8 hN) (dgs_cons (dg_n 9 hN) dgs_nil))) (de_ix ixD_seq (de_v 6) (de_un unD_neg de_int)))
    (dss_one (ds_exp (de_mt PySem.F.plainAttrs_list PySem.F.slot_list_append PySem.F.type_list_append mtD_append (de_v 6) (da_cons (de_tup (da_cons (de_op opD_add (de_op opD_mul (de_v 8) (de_op opD_add (de_v 5) (de_v 4))) (de_op opD_mul (de_op opD_mul (de_v 3) (de_v 9)) (de_v 5))) (da_cons (de_op opD_mul (de_v 9) (de_v 5)) da_nil))) da_nil))))))
    (dss_one (ds_ret (de_v 6)))))))
/-! ### _law_balances_right -/
theorem sc__law_balances_right : FnScope ["cup", "plan", "periods", "rows", "top", "below", "whole", "turn", "one", "under"] ["cup"] (defScope (top 40)) := ⟨rfl, rfl, rfl, by decide +kernel, rfl, by decide +kernel, by decide +kernel⟩
@[irreducible] noncomputable def b__law_balances_right_1 : FS := (sAsg (e2 addD (e2 addD (gv 6) (e2 fdivD (e2 mulD (gv 6) (e2 ixD (gv 1) (cst (.int 2)))) (e2 ixD (gv 1) (cst (.int 3))))) (e2 ixD (gv 1) (cst (.int 1)))) (bN 6))
@[irreducible] noncomputable def b__law_balances_right : FS := (sSeq (sPar 1 2 (eCall 3 F__law_plan (aCons (gv 0) (aCons (eCall 2 F__law_some (aCons (gv 0) (aCons (mkL (aCons (cst (.int 9)) (aCons (cst (.int 5000)) (aCons (cst (.int 1000000)) aNil)))) aNil))) (aCons (eCall 2 F__law_some (aCons (gv 0) (aCons (mkL (aCons (cst (.int 3)) (aCons (cst (.int 20)) (aCons (cst (.int 10000)) aNil)))) aNil))) aNil)))) (eCall 2 F__law_roll (aCons (gv 0) (aCons (cst (.int 31)) aNil))))
    (sSeq (sAsg (eCall 2 F__law_steps (aCons (gv 1) (aCons (gv 2) aNil))) (bN 3))
    (sSeq (sAsg (e2 ixD (gv 3) (e1 negD (cst (.int 1)))) (bT [(bN 4), (bN 5)]))
    (sSeq (sIf (orT (tst (e2 isNotD (eCall 1 F_is_plan (aCons (gv 1) aNil)) (cst (.bl true)))) (notT (tru (eCall 2 (F__law_same 4) (aCons (eCall 2 F_balance (aCons (gv 1) (aCons (gv 2) aNil))) (aCons (eCall 2 F__law_lowest (aCons (gv 4) (aCons (gv 5) aNil))) aNil)))))) (sRet (cst (.bl false))) sNil)
    (sSeq (sAsg (e2 ixD (gv 1) (cst (.int 0))) (bN 6))
    (sSeq (sFor fuel (iRng1 (aCons (gv 2) aNil)) (bN 7) b__law_balances_right_1)
    (sSeq (sIf (orT (notT (tru (eCall 2 (F__law_same 4) (aCons (eCall 2 F_whole_balance (aCons (gv 1) (aCons (gv 2) aNil))) (aCons (gv 6) aNil))))) (tst (e2 gtI (e2 mulD (gv 6) (gv 5)) (gv 4)))) (sRet (cst (.bl false))) sNil)
    (sSeq (sAsg (e2 ixD (eCall 2 F__law_steps (aCons (e2 addD (mkT (aCons (cst (.int 0)) (aCons (cst (.int 1)) aNil))) (eSl slD (gv 1) (oSome (cst (.int 2))) oNone)) (aCons (gv 2) aNil))) (e1 negD (cst (.int 1)))) (bT [(bN 8), (bN 9)]))
    (sRet (orE (e2 eqD (gv 2) (cst (.int 0))) (e2 ltI (e2 mulD (e2 subD (gv 4) (e2 mulD (gv 6) (gv 5))) (gv 9)) (e2 mulD (gv 8) (gv 5)))))))))))))
noncomputable def F__law_balances_right : FF := runF 10 (b__law_balances_right)
theorem ok__law_balances_right {P : Program} {w : World} {K : PySem.W.Frag} {mg : Str → Option Value} {base : Heap} (S : Fx K mg) : FOk P w K mg base 6 "_law_balances_right" 1 F__law_balances_right := by
  have c__law_lowest := ok__law_lowest (P := P) (w := w) (base := base) S
  have c__law_plan := ok__law_plan (P := P) (w := w) (base := base) S
  have c__law_roll := ok__law_roll (P := P) (w := w) (base := base) S
  have c__law_same := ok__law_same (P := P) (w := w) (base := base) S 4
  have c__law_some := ok__law_some (P := P) (w := w) (base := base) S
  have c__law_steps := ok__law_steps (P := P) (w := w) (base := base) S
  have c_balance := ok_balance (P := P) (w := w) (base := base) S
  have c_is_plan := ok_is_plan (P := P) (w := w) (base := base) S
  have c_whole_balance := ok_whole_balance (P := P) (w := w) (base := base) S
  have sc := sc__law_balances_right
  have hN := sc.nd
  refine (Fn1.ok (k := 5) S.f__law_balances_right sc rfl (fun cdv A outer s H E f hr tk hp => ?_) (fun _ _ _ _ _ _ us hl => match us, hl with | [_], _ => rfl))
  have hu := hr.units
  exact (by unfold b__law_balances_right b__law_balances_right_1; exact (dss_cons (ds_par 1 2 rfl hN (de_callF c__law_plan tk (hr.mono (by omega)) (da_cons (de_v 0) (da_cons (de_callF c__law_some tk (hr.mono (by omega)) (da_cons (de_v 0) (da_cons (de_lst (da_cons de_int (da_cons de_int (da_cons de_int da_nil)))) da_nil))) (da_cons (de_callF c__law_some tk (hr.mono (by omega)) (da_cons (de_v 0) (da_cons (de_lst (da_cons de_int (da_cons de_int (da_cons de_int da_nil)))) da_nil))) da_nil)))) (de_callF c__law_roll tk (hr.mono (by omega)) (da_cons (de_v 0) (da_cons de_int da_nil))))
    (dss_cons (ds_set 3 hN (de_callF c__law_steps tk (hr.mono (by omega)) (da_cons (de_v 1) (da_cons (de_v 2) da_nil))))
    (dss_cons (ds_asg (dg_t rfl (dgs_cons (dg_n 4 hN) (dgs_cons (dg_n 5 hN) dgs_nil))) (de_ix ixD_seq (de_v 3) (de_un unD_neg de_int)))
    (dss_cons (ds_if (dt_w (dw_or (dt_cmp opD_isNot (de_callF c_is_plan tk (hr.mono (by omega)) (da_cons (de_v 1) da_nil)) de_bl) (dw_or1 (dt_not (dt_tru (de_callF c__law_same tk (hr.mono (by omega)) (da_cons (de_callF c_balance tk (hr.mono (by omega)) (da_cons (de_v 1) (da_cons (de_v 2) da_nil))) (da_cons (de_callF c__law_lowest tk (hr.mono (by omega)) (da_cons (de_v 4) (da_cons (de_v 5) da_nil))) da_nil)))))))) (dss_one (ds_ret de_bl)) dss_nil)
    (dss_cons (ds_set 6 hN (de_ix ixD_seq (de_v 1) de_int))
    (dss_cons (ds_for hp rfl (di_range1 S.b_range (da_cons (de_v 2) da_nil)) (dg_n 7 hN) (dss_one (ds_set 6 hN (de_op opD_add (de_op opD_add (de_v 6) (de_op opD_fdiv (de_op opD_mul (de_v 6) (de_ix ixD_seq (de_v 1) de_int)) (de_ix ixD_seq (de_v 1) de_int))) (de_ix ixD_seq (de_v 1) de_int)))))
    (dss_cons (ds_if (dt_w (dw_or (dt_not (dt_tru (de_callF c__law_same tk (hr.mono (by omega)) (da_cons (de_callF c_whole_balance tk (hr.mono (by omega)) (da_cons (de_v 1) (da_cons (de_v 2) da_nil))) (da_cons (de_v 6) da_nil))))) (dw_or1 (dt_cmp opD_gt (de_op opD_mul (de_v 6) (de_v 5)) (de_v 4))))) (dss_one (ds_ret de_bl)) dss_nil)
    (dss_cons (ds_asg (dg_t rfl (dgs_cons (dg_n 8 hN) (dgs_cons (dg_n 9 hN) dgs_nil))) (de_ix ixD_seq (de_callF c__law_steps tk (hr.mono (by omega)) (da_cons (de_op opD_add (de_tup (da_cons de_int (da_cons de_int da_nil))) (de_slice slD_ok (de_v 1) (do_some de_int) do_none)) (da_cons (de_v 2) da_nil))) (de_un unD_neg de_int)))
    (dss_one (ds_ret (de_or (de_cmp (opD_eq hu) (de_v 2) de_int) (de_one (de_cmp opD_lt (de_op opD_mul (de_op opD_sub (de_v 4) (de_op opD_mul (de_v 6) (de_v 5))) (de_v 9)) (de_op opD_mul (de_v 8) (de_v 5))))))))))))))))
/-! ### _law_goals_right -/
theorem sc__law_goals_right : FnScope ["cup", "plan", "goal", "periods", "rows", "told", "good", "period", "at", "least", "own", "changed", "top", "below"] ["cup"] (defScope (top 41)) := ⟨rfl, rfl, rfl, by decide +kernel, rfl, by decide +kernel, by decide +kernel⟩
@[irreducible] noncomputable def b__law_goals_right_1 : FS := (sSeq (sAsg (e2 addD (e2 addD (eSl slD (gv 1) oNone (oSome (gv 8))) (mkT (aCons (gv 10) aNil))) (eSl slD (gv 1) (oSome (e2 addD (gv 8) (cst (.int 1)))) oNone)) (bN 11))
    (sSeq (sAsg (e2 ixD (eCall 2 F__law_steps (aCons (gv 11) (aCons (gv 3) aNil))) (e1 negD (cst (.int 1)))) (bT [(bN 12), (bN 13)]))
    (sIf (andT (tst (e2 geI (gv 10) (cst (.int 0)))) (tst (e2 neD (e2 geI (gv 12) (e2 mulD (gv 2) (gv 13))) (e2 eqD (gv 10) (gv 9))))) (sRet (cst (.bl false))) sNil)))
@[irreducible] noncomputable def b__law_goals_right_2 : FS := (sSeq (sIf (orT (notT (tru (eL isiD (aCons (gv 9) (aCons (cst (.ty "int")) aNil))))) (orT (tru (eL isiD (aCons (gv 9) (aCons (cst (.ty "bool")) aNil)))) (tst (e2 ltI (gv 9) (cst (.int 0)))))) (sRet (cst (.bl false))) sNil)
    (sFor fuel (iVal (mkT (aCons (gv 9) (aCons (e2 subD (gv 9) (cst (.int 1))) aNil)))) (bN 10) b__law_goals_right_1))
@[irreducible] noncomputable def b__law_goals_right : FS := (sSeq (sAsg (mkT (aCons (eCall 3 F__law_plan (aCons (gv 0) (aCons (cst (.int 300)) (aCons (cst (.int 12)) aNil)))) (aCons (e2 addD (cst (.int 1)) (eCall 2 F__law_some (aCons (gv 0) (aCons (mkL (aCons (eCall 2 F__law_roll (aCons (gv 0) (aCons (cst (.int 40)) aNil))) (aCons (eCall 2 F__law_roll (aCons (gv 0) (aCons (cst (.int 9000)) aNil))) aNil))) aNil)))) (aCons (e2 addD (cst (.int 1)) (eCall 2 F__law_roll (aCons (gv 0) (aCons (cst (.int 25)) aNil)))) aNil)))) (bT [(bN 1), (bN 2), (bN 3)]))
    (sSeq (sAsg (mkT (aCons (eCall 2 F__law_steps (aCons (gv 1) (aCons (cst (.int 60)) aNil))) (aCons (eCall 2 F_periods_to (aCons (gv 1) (aCons (gv 2) aNil))) aNil))) (bT [(bN 4), (bN 5)]))
    (sSeq (sAsg (lc fuel [7] (iRng1 (aCons (cst (.int 61)) aNil)) (bN 7) (tst (e2 geI (e2 ixD (e2 ixD (gv 4) (gv 7)) (cst (.int 0))) (e2 mulD (gv 2) (e2 ixD (e2 ixD (gv 4) (gv 7)) (cst (.int 1)))))) (gv 7)) (bN 6))
    (sSeq (sIf (orT (andT (tst (e2 neD (gv 6) (mkL aNil))) (notT (tru (eCall 2 (F__law_same 4) (aCons (gv 5) (aCons (e2 ixD (gv 6) (cst (.int 0))) aNil)))))) (andT (tst (e2 eqD (gv 6) (mkL aNil))) (andT (tst (e2 isNotD (gv 5) (cst .non))) (notT (tst (chn leI leI (cst (.int 61)) (gv 5) (cst (.int 1000)))))))) (sRet (cst (.bl false))) sNil)
    (sSeq (sIf (andT (tst (e2 eqD (e2 ixD (gv 1) (cst (.int 0))) (cst (.int 0)))) (andT (tst (e2 eqD (e2 ixD (gv 1) (cst (.int 1))) (cst (.int 0)))) (tst (e2 isNotD (gv 5) (cst .non))))) (sRet (cst (.bl false))) sNil)
    (sSeq (sFor fuel (iVal (mkT (aCons (mkT (aCons (cst (.int 1)) (aCons (eCall 3 F_least_deposit (aCons (gv 1) (aCons (gv 2) (aCons (gv 3) aNil)))) aNil))) (aCons (mkT (aCons (cst (.int 0)) (aCons (eCall 3 F_least_start (aCons (gv 1) (aCons (gv 2) (aCons (gv 3) aNil)))) aNil))) aNil)))) (bT [(bN 8), (bN 9)]) b__law_goals_right_2)
    (sRet (cst (.bl true)))))))))
noncomputable def F__law_goals_right : FF := runF 14 (b__law_goals_right)
theorem ok__law_goals_right {P : Program} {w : World} {K : PySem.W.Frag} {mg : Str → Option Value} {base : Heap} (S : Fx K mg) : FOk P w K mg base 7 "_law_goals_right" 1 F__law_goals_right := by
  have c__law_plan := ok__law_plan (P := P) (w := w) (base := base) S
  have c__law_roll := ok__law_roll (P := P) (w := w) (base := base) S
  have c__law_same := ok__law_same (P := P) (w := w) (base := base) S 4
  have c__law_some := ok__law_some (P := P) (w := w) (base := base) S
  have c__law_steps := ok__law_steps (P := P) (w := w) (base := base) S
  have c_least_deposit := ok_least_deposit (P := P) (w := w) (base := base) S
  have c_least_start := ok_least_start (P := P) (w := w) (base := base) S
  have c_periods_to := ok_periods_to (P := P) (w := w) (base := base) S
  have sc := sc__law_goals_right
  have hN := sc.nd
  refine (Fn1.ok (k := 6) S.f__law_goals_right sc rfl (fun cdv A outer s H E f hr tk hp => ?_) (fun _ _ _ _ _ _ us hl => match us, hl with | [_], _ => rfl))
  have hu := hr.units
  exact (by unfold b__law_goals_right b__law_goals_right_2 b__law_goals_right_1; exact (dss_cons (ds_asg (dg_t rfl (dgs_cons (dg_n 1 hN) (dgs_cons (dg_n 2 hN) (dgs_cons (dg_n 3 hN) dgs_nil)))) (de_tup (da_cons (de_callF c__law_plan tk (hr.mono (by omega)) (da_cons (de_v 0) (da_cons de_int (da_cons de_int da_nil)))) (da_cons (de_op opD_add de_int (de_callF c__law_some tk (hr.mono (by omega)) (da_cons (de_v 0) (da_cons (de_lst (da_cons (de_callF c__law_roll tk (hr.mono (by omega)) (da_cons (de_v 0) (da_cons de_int da_nil))) (da_cons (de_callF c__law_roll tk (hr.mono (by omega)) (da_cons (de_v 0) (da_cons de_int da_nil))) da_nil))) da_nil)))) (da_cons (de_op opD_add de_int (de_callF c__law_roll tk (hr.mono (by omega)) (da_cons (de_v 0) (da_cons de_int da_nil)))) da_nil)))))
    (dss_cons (ds_asg (dg_t rfl (dgs_cons (dg_n 4 hN) (dgs_cons (dg_n 5 hN) dgs_nil))) (de_tup (da_cons (de_callF c__law_steps tk (hr.mono (by omega)) (da_cons (de_v 1) (da_cons de_int da_nil))) (da_cons (de_callF c_periods_to tk (hr.mono (by omega)) (da_cons (de_v 1) (da_cons (de_v 2) da_nil))) da_nil))))
    (dss_cons (ds_setLc 6 rfl hN (sw_true sc.kind rfl rfl rfl) (di_range1 S.b_range (da_cons de_int da_nil)) (blkOk_by (own := [("period", 7)]) (by kernel_rfl)) (fun _ _ _ _ _ => (dg_n 7 hN)) (fun _ _ _ _ _ => (dts_one (dt_cmp opD_ge (de_ix ixD_seq (de_ix ixD_seq (de_v 4) (de_v 7)) de_int) (de_op opD_mul (de_v 2) (de_ix ixD_seq (de_ix ixD_seq (de_v 4) (de_v 7)) de_int))))) (fun _ _ _ _ _ => (de_v 7)))
    (dss_cons (ds_if (dt_w (dw_or (dt_w (dw_and (dt_cmp (opD_ne hu) (de_v 6) (de_lst da_nil)) (dw_and1 (dt_not (dt_tru (de_callF c__law_same tk (hr.mono (by omega)) (da_cons (de_v 5) (da_cons (de_ix ixD_seq (de_v 6) de_int) da_nil)))))))) (dw_or1 (dt_w (dw_and (dt_cmp (opD_eq hu) (de_v 6) (de_lst da_nil)) (dw_and (dt_cmp opD_isNot (de_v 5) de_non) (dw_and1 (dt_not (dt_chain opD_le opD_le de_int (de_v 5) de_int))))))))) (dss_one (ds_ret de_bl)) dss_nil)
    (dss_cons (ds_if (dt_w (dw_and (dt_cmp (opD_eq hu) (de_ix ixD_seq (de_v 1) de_int) de_int) (dw_and (dt_cmp (opD_eq hu) (de_ix ixD_seq (de_v 1) de_int) de_int) (dw_and1 (dt_cmp opD_isNot (de_v 5) de_non))))) (dss_one (ds_ret de_bl)) dss_nil)
    (dss_cons (ds_for hp rfl (di_val (de_tup (da_cons (de_tup (da_cons de_int (da_cons (de_callF c_least_deposit tk (hr.mono (by omega)) (da_cons (de_v 1) (da_cons (de_v 2) (da_cons (de_v 3) da_nil)))) da_nil))) (da_cons (de_tup (da_cons de_int (da_cons (de_callF c_least_start tk (hr.mono (by omega)) (da_cons (de_v 1) (da_cons (de_v 2) (da_cons (de_v 3) da_nil)))) da_nil))) da_nil)))) (dg_t rfl (dgs_cons (dg_n 8 hN) (dgs_cons (dg_n 9 hN) dgs_nil))) (dss_cons (ds_if (dt_w (dw_or (dt_not (dt_tru (de_callB callD_isi S.b_isinstance rfl (da_cons (de_v 9) (da_cons (de_ty S.b_int rfl) da_nil))))) (dw_or (dt_tru (de_callB callD_isi S.b_isinstance rfl (da_cons (de_v 9) (da_cons (de_ty S.b_bool rfl) da_nil)))) (dw_or1 (dt_cmp opD_lt (de_v 9) de_int))))) (dss_one (ds_ret de_bl)) dss_nil)
    (dss_one (ds_for hp rfl (di_val (de_tup (da_cons (de_v 9) (da_cons (de_op opD_sub (de_v 9) de_int) da_nil)))) (dg_n 10 hN) (dss_cons (ds_set 11 hN (de_op opD_add (de_op opD_add (de_slice slD_ok (de_v 1) do_none (do_some (de_v 8))) (de_tup (da_cons (de_v 10) da_nil))) (de_slice slD_ok (de_v 1) (do_some (de_op opD_add (de_v 8) de_int)) do_none)))
    (dss_cons (ds_asg (dg_t rfl (dgs_cons (dg_n 12 hN) (dgs_cons (dg_n 13 hN) dgs_nil))) (de_ix ixD_seq (de_callF c__law_steps tk (hr.mono (by omega)) (da_cons (de_v 11) (da_cons (de_v 3) da_nil))) (de_un unD_neg de_int)))
    (dss_one (ds_if (dt_w (dw_and (dt_cmp opD_ge (de_v 10) de_int) (dw_and1 (dt_cmp (opD_ne hu) (de_cmp opD_ge (de_v 12) (de_op opD_mul (de_v 2) (de_v 13))) (de_cmp (opD_eq hu) (de_v 10) (de_v 9)))))) (dss_one (ds_ret de_bl)) dss_nil))))))))
    (dss_one (ds_ret de_bl)))))))))
/-! ### _law_times_right -/
theorem sc__law_times_right : FnScope ["cup", "plan", "below", "top", "told", "rows", "good", "period"] ["cup"] (defScope (top 42)) := ⟨rfl, rfl, rfl, by decide +kernel, rfl, by decide +kernel, by decide +kernel⟩
@[irreducible] noncomputable def b__law_times_right : FS := (sSeq (sAsg (mkT (aCons (eCall 3 F__law_plan (aCons (gv 0) (aCons (cst (.int 50)) (aCons (cst (.int 12)) aNil)))) (aCons (e2 addD (cst (.int 1)) (eCall 2 F__law_some (aCons (gv 0) (aCons (mkL (aCons (eCall 2 F__law_roll (aCons (gv 0) (aCons (cst (.int 5)) aNil))) (aCons (eCall 2 F__law_roll (aCons (gv 0) (aCons (cst (.int 300)) aNil))) aNil))) aNil)))) aNil))) (bT [(bN 1), (bN 2)]))
    (sSeq (sAsg (eL min2D (aCons (cst (.int 1000)) (aCons (e2 addD (gv 2) (eCall 2 F__law_some (aCons (gv 0) (aCons (mkL (aCons (cst (.int 0)) (aCons (eCall 2 F__law_roll (aCons (gv 0) (aCons (cst (.int 20)) aNil))) (aCons (eCall 2 F__law_roll (aCons (gv 0) (aCons (cst (.int 701)) aNil))) aNil)))) aNil)))) aNil))) (bN 3))
    (sSeq (sAsg (mkT (aCons (eCall 3 F_times_to (aCons (gv 1) (aCons (gv 3) (aCons (gv 2) aNil)))) (aCons (eCall 2 F__law_steps (aCons (e2 addD (mkT (aCons (cst (.int 1)) (aCons (cst (.int 0)) aNil))) (eSl slD (gv 1) (oSome (cst (.int 2))) oNone)) (aCons (cst (.int 80)) aNil))) aNil))) (bT [(bN 4), (bN 5)]))
    (sSeq (sAsg (lc fuel [7] (iRng1 (aCons (cst (.int 81)) aNil)) (bN 7) (tst (e2 geI (e2 mulD (e2 ixD (e2 ixD (gv 5) (gv 7)) (cst (.int 0))) (gv 2)) (e2 mulD (gv 3) (e2 ixD (e2 ixD (gv 5) (gv 7)) (cst (.int 1)))))) (gv 7)) (bN 6))
    (sSeq (sIf (tst (e2 neD (gv 6) (mkL aNil))) (sRet (eCall 2 (F__law_same 4) (aCons (gv 4) (aCons (e2 ixD (gv 6) (cst (.int 0))) aNil)))) sNil)
    (sRet (orE (e2 isD (gv 4) (cst .non)) (andE (eL isiD (aCons (gv 4) (aCons (cst (.ty "int")) aNil))) (andE (chn leI leI (cst (.int 81)) (gv 4) (cst (.int 1000))) (e2 gtI (e2 ixD (gv 1) (cst (.int 2))) (cst (.int 0))))))))))))
noncomputable def F__law_times_right : FF := runF 8 (b__law_times_right)
theorem ok__law_times_right {P : Program} {w : World} {K : PySem.W.Frag} {mg : Str → Option Value} {base : Heap} (S : Fx K mg) : FOk P w K mg base 7 "_law_times_right" 1 F__law_times_right := by
  have c__law_plan := ok__law_plan (P := P) (w := w) (base := base) S
  have c__law_roll := ok__law_roll (P := P) (w := w) (base := base) S
  have c__law_same := ok__law_same (P := P) (w := w) (base := base) S 4
  have c__law_some := ok__law_some (P := P) (w := w) (base := base) S
  have c__law_steps := ok__law_steps (P := P) (w := w) (base := base) S
  have c_times_to := ok_times_to (P := P) (w := w) (base := base) S
  have sc := sc__law_times_right
  have hN := sc.nd
  refine (Fn1.ok (k := 6) S.f__law_times_right sc rfl (fun cdv A outer s H E f hr tk hp => ?_) (fun _ _ _ _ _ _ us hl => match us, hl with | [_], _ => rfl))
  have hu := hr.units
  exact (by unfold b__law_times_right; exact (dss_cons (ds_asg (dg_t rfl (dgs_cons (dg_n 1 hN) (dgs_cons (dg_n 2 hN) dgs_nil))) (de_tup (da_cons (de_callF c__law_plan tk (hr.mono (by omega)) (da_cons (de_v 0) (da_cons de_int (da_cons de_int da_nil)))) (da_cons (de_op opD_add de_int (de_callF c__law_some tk (hr.mono (by omega)) (da_cons (de_v 0) (da_cons (de_lst (da_cons (de_callF c__law_roll tk (hr.mono (by omega)) (da_cons (de_v 0) (da_cons de_int da_nil))) (da_cons (de_callF c__law_roll tk (hr.mono (by omega)) (da_cons (de_v 0) (da_cons de_int da_nil))) da_nil))) da_nil)))) da_nil))))
    (dss_cons (ds_set 3 hN (de_callB (callD_min2 rfl) S.b_min rfl (da_cons de_int (da_cons (de_op opD_add (de_v 2) (de_callF c__law_some tk (hr.mono (by omega)) (da_cons (de_v 0) (da_cons (de_lst (da_cons de_int (da_cons (de_callF c__law_roll tk (hr.mono (by omega)) (da_cons (de_v 0) (da_cons de_int da_nil))) (da_cons (de_callF c__law_roll tk (hr.mono (by omega)) (da_cons (de_v 0) (da_cons de_int da_nil))) da_nil)))) da_nil)))) da_nil))))
    (dss_cons (ds_asg (dg_t rfl (dgs_cons (dg_n 4 hN) (dgs_cons (dg_n 5 hN) dgs_nil))) (de_tup (da_cons (de_callF c_times_to tk (hr.mono (by omega)) (da_cons (de_v 1) (da_cons (de_v 3) (da_cons (de_v 2) da_nil)))) (da_cons (de_callF c__law_steps tk (hr.mono (by omega)) (da_cons (de_op opD_add (de_tup (da_cons de_int (da_cons de_int da_nil))) (de_slice slD_ok (de_v 1) (do_some de_int) do_none)) (da_cons de_int da_nil))) da_nil))))
    (dss_cons (ds_setLc 6 rfl hN (sw_true sc.kind rfl rfl rfl) (di_range1 S.b_range (da_cons de_int da_nil)) (blkOk_by (own := [("period", 7)]) (by kernel_rfl)) (fun _ _ _ _ _ => (dg_n 7 hN)) (fun _ _ _ _ _ => (dts_one (dt_cmp opD_ge (de_op opD_mul (de_ix ixD_seq (de_ix ixD_seq (de_v 5) (de_v 7)) de_int) (de_v 2)) (de_op opD_mul (de_v 3) (de_ix ixD_seq (de_ix ixD_seq (de_v 5) (de_v 7)) de_int))))) (fun _ _ _ _ _ => (de_v 7)))
    (dss_cons (ds_if (dt_cmp (opD_ne hu) (de_v 6) (de_lst da_nil)) (dss_one (ds_ret (de_callF c__law_same tk (hr.mono (by omega)) (da_cons (de_v 4) (da_cons (de_ix ixD_seq (de_v 6) de_int) da_nil))))) dss_nil)
    (dss_one (ds_ret (de_or (de_cmp opD_is (de_v 4) de_non) (de_one (de_and (de_callB callD_isi S.b_isinstance rfl (da_cons (de_v 4) (da_cons (de_ty S.b_int rfl) da_nil))) (de_and (de_chain opD_le opD_le de_int (de_v 4) de_int) (de_one (de_cmp opD_gt (de_ix ixD_seq (de_v 1) de_int) de_int))))))))))))))
/-! ### _law_late_right -/
theorem sc__law_late_right : FnScope ["cup", "many", "deposit", "plain", "more", "told", "power", "turns", "turn"] ["cup"] (defScope (top 43)) := ⟨rfl, rfl, rfl, by decide +kernel, rfl, by decide +kernel, by decide +kernel⟩
@[irreducible] noncomputable def b__law_late_right_1 : FS := (sAsg (e2 mulD (gv 6) (cst (.int 2))) (bN 6))
@[irreducible] noncomputable def b__law_late_right : FS := (sSeq (sPar 1 2 (e2 addD (cst (.int 1)) (eCall 2 F__law_roll (aCons (gv 0) (aCons (cst (.int 1000)) aNil)))) (e2 addD (cst (.int 1)) (eCall 2 F__law_roll (aCons (gv 0) (aCons (cst (.int 1000)) aNil)))))
    (sSeq (sPar 3 4 (mkT (aCons (cst (.int 0)) (aCons (gv 2) (aCons (cst (.int 0)) (aCons (e2 addD (cst (.int 1)) (eCall 2 F__law_roll (aCons (gv 0) (aCons (cst (.int 9)) aNil)))) aNil))))) (eCall 2 F__law_roll (aCons (gv 0) (aCons (gv 2) aNil))))
    (sSeq (sAsg (mkT (aCons (eCall 2 F_periods_to (aCons (gv 3) (aCons (e2 subD (e2 mulD (gv 1) (gv 2)) (gv 4)) aNil))) (aCons (eCall 2 F_periods_to (aCons (gv 3) (aCons (e2 addD (e2 mulD (cst (.int 1000)) (gv 2)) (cst (.int 1))) aNil))) aNil))) (bN 5))
    (sSeq (sIf (notT (tru (eCall 2 (F__law_same 4) (aCons (gv 5) (aCons (mkT (aCons (gv 1) (aCons (cst .non) aNil))) aNil))))) (sRet (cst (.bl false))) sNil)
    (sSeq (sPar 6 7 (cst (.int 1)) (eCall 2 F__law_roll (aCons (gv 0) (aCons (cst (.int 30)) aNil))))
    (sSeq (sFor fuel (iRng1 (aCons (gv 7) aNil)) (bN 8) b__law_late_right_1)
    (sSeq (sAsg (mkT (aCons (eCall 2 F_periods_to (aCons (mkT (aCons (cst (.int 1)) (aCons (cst (.int 0)) (aCons (cst (.int 3)) (aCons (cst (.int 3)) aNil))))) (aCons (gv 6) aNil))) (aCons (eCall 2 F_periods_to (aCons (mkT (aCons (cst (.int 0)) (aCons (cst (.int 1)) (aCons (cst (.int 1)) (aCons (cst (.int 1)) aNil))))) (aCons (gv 6) aNil))) (aCons (eCall 2 F_balance (aCons (mkT (aCons (cst (.int 1)) (aCons (cst (.int 0)) (aCons (cst (.int 7)) (aCons (cst (.int 7)) aNil))))) (aCons (gv 7) aNil))) (aCons (eCall 2 F_whole_balance (aCons (mkT (aCons (cst (.int 0)) (aCons (cst (.int 1)) (aCons (cst (.int 1)) (aCons (cst (.int 1)) aNil))))) (aCons (gv 7) aNil))) aNil))))) (bN 5))
    (sSeq (sIf (notT (tru (eCall 2 (F__law_same 4) (aCons (gv 5) (aCons (mkT (aCons (gv 7) (aCons (e2 addD (gv 7) (cst (.int 1))) (aCons (mkT (aCons (gv 6) (aCons (cst (.int 1)) aNil))) (aCons (e2 subD (gv 6) (cst (.int 1))) aNil))))) aNil))))) (sRet (cst (.bl false))) sNil)
    (sSeq (sAsg (mkT (aCons (eCall 3 F_least_start (aCons (mkT (aCons (cst (.int 0)) (aCons (cst (.int 0)) (aCons (cst (.int 0)) (aCons (cst (.int 5)) aNil))))) (aCons (cst (.int 1000000000)) (aCons (cst (.int 300)) aNil)))) (aCons (eCall 3 F_least_deposit (aCons (mkT (aCons (cst (.int 0)) (aCons (cst (.int 0)) (aCons (cst (.int 0)) (aCons (cst (.int 1)) aNil))))) (aCons (cst (.int 301)) (aCons (cst (.int 300)) aNil)))) (aCons (eCall 3 F_least_deposit (aCons (mkT (aCons (cst (.int 301)) (aCons (cst (.int 7)) (aCons (cst (.int 0)) (aCons (cst (.int 1)) aNil))))) (aCons (cst (.int 301)) (aCons (cst (.int 9)) aNil)))) aNil)))) (bN 5))
    (sRet (eCall 2 (F__law_same 4) (aCons (gv 5) (aCons (mkT (aCons (cst (.int 1000000000)) (aCons (cst (.int 2)) (aCons (cst (.int 0)) aNil)))) aNil)))))))))))))
noncomputable def F__law_late_right : FF := runF 9 (b__law_late_right)
theorem ok__law_late_right {P : Program} {w : World} {K : PySem.W.Frag} {mg : Str → Option Value} {base : Heap} (S : Fx K mg) : FOk P w K mg base 7 "_law_late_right" 1 F__law_late_right := by
  have c__law_roll := ok__law_roll (P := P) (w := w) (base := base) S
  have c__law_same := ok__law_same (P := P) (w := w) (base := base) S 4
  have c_balance := ok_balance (P := P) (w := w) (base := base) S
  have c_least_deposit := ok_least_deposit (P := P) (w := w) (base := base) S
  have c_least_start := ok_least_start (P := P) (w := w) (base := base) S
  have c_periods_to := ok_periods_to (P := P) (w := w) (base := base) S
  have c_whole_balance := ok_whole_balance (P := P) (w := w) (base := base) S
  have sc := sc__law_late_right
  have hN := sc.nd
  refine (Fn1.ok (k := 6) S.f__law_late_right sc rfl (fun cdv A outer s H E f hr tk hp => ?_) (fun _ _ _ _ _ _ us hl => match us, hl with | [_], _ => rfl))
  have hu := hr.units
  exact (by unfold b__law_late_right b__law_late_right_1; exact (dss_cons (ds_par 1 2 rfl hN (de_op opD_add de_int (de_callF c__law_roll tk (hr.mono (by omega)) (da_cons (de_v 0) (da_cons de_int da_nil)))) (de_op opD_add de_int (de_callF c__law_roll tk (hr.mono (by omega)) (da_cons (de_v 0) (da_cons de_int da_nil)))))
    (dss_cons (ds_par 3 4 rfl hN (de_tup (da_cons de_int (da_cons (de_v 2) (da_cons de_int (da_cons (de_op opD_add de_int (de_callF c__law_roll tk (hr.mono (by omega)) (da_cons (de_v 0) (da_cons de_int da_nil)))) da_nil))))) (de_callF c__law_roll tk (hr.mono (by omega)) (da_cons (de_v 0) (da_cons (de_v 2) da_nil))))
    (dss_cons (ds_set 5 hN (de_tup (da_cons (de_callF c_periods_to tk (hr.mono (by omega)) (da_cons (de_v 3) (da_cons (de_op opD_sub (de_op opD_mul (de_v 1) (de_v 2)) (de_v 4)) da_nil))) (da_cons (de_callF c_periods_to tk (hr.mono (by omega)) (da_cons (de_v 3) (da_cons (de_op opD_add (de_op opD_mul de_int (de_v 2)) de_int) da_nil))) da_nil))))
    (dss_cons (ds_if (dt_not (dt_tru (de_callF c__law_same tk (hr.mono (by omega)) (da_cons (de_v 5) (da_cons (de_tup (da_cons (de_v 1) (da_cons de_non da_nil))) da_nil))))) (dss_one (ds_ret de_bl)) dss_nil)
    (dss_cons (ds_par 6 7 rfl hN de_int (de_callF c__law_roll tk (hr.mono (by omega)) (da_cons (de_v 0) (da_cons de_int da_nil))))
    (dss_cons (ds_for hp rfl (di_range1 S.b_range (da_cons (de_v 7) da_nil)) (dg_n 8 hN) (dss_one (ds_set 6 hN (de_op opD_mul (de_v 6) de_int))))
    (dss_cons (ds_set 5 hN (de_tup (da_cons (de_callF c_periods_to tk (hr.mono (by omega)) (da_cons (de_tup (da_cons de_int (da_cons de_int (da_cons de_int (da_cons de_int da_nil))))) (da_cons (de_v 6) da_nil))) (da_cons (de_callF c_periods_to tk (hr.mono (by omega)) (da_cons (de_tup (da_cons de_int (da_cons de_int (da_cons de_int (da_cons de_int da_nil))))) (da_cons (de_v 6) da_nil))) (da_cons (de_callF c_balance tk (hr.mono (by omega)) (da_cons (de_tup (da_cons de_int (da_cons de_int (da_cons de_int (da_cons de_int da_nil))))) (da_cons (de_v 7) da_nil))) (da_cons (de_callF c_whole_balance tk (hr.mono (by omega)) (da_cons (de_tup (da_cons de_int (da_cons de_int (da_cons de_int (da_cons de_int da_nil))))) (da_cons (de_v 7) da_nil))) da_nil))))))
    (dss_cons (ds_if (dt_not (dt_tru (de_callF c__law_same tk (hr.mono (by omega)) (da_cons (de_v 5) (da_cons (de_tup (da_cons (de_v 7) (da_cons (de_op opD_add (de_v 7) de_int) (da_cons (de_tup (da_cons (de_v 6) (da_cons de_int da_nil))) (da_cons (de_op opD_sub (de_v 6) de_int) da_nil))))) da_nil))))) (dss_one (ds_ret de_bl)) dss_nil)
    (dss_cons (ds_set 5 hN (de_tup (da_cons (de_callF c_least_start tk (hr.mono (by omega)) (da_cons (de_tup (da_cons de_int (da_cons de_int (da_cons de_int (da_cons de_int da_nil))))) (da_cons de_int (da_cons de_int da_nil)))) (da_cons (de_callF c_least_deposit tk (hr.mono (by omega)) (da_cons (de_tup (da_cons de_int (da_cons de_int (da_cons de_int (da_cons de_int da_nil))))) (da_cons de_int (da_cons de_int da_nil)))) (da_cons (de_callF c_least_deposit tk (hr.mono (by omega)) (da_cons (de_tup (da_cons de_int (da_cons de_int (da_cons de_int (da_cons de_int da_nil))))) (da_cons de_int (da_cons de_int da_nil)))) da_nil)))))
    (dss_one (ds_ret (de_callF c__law_same tk (hr.mono (by omega)) (da_cons (de_v 5) (da_cons (de_tup (da_cons de_int (da_cons de_int (da_cons de_int da_nil)))) da_nil)))))))))))))))
/-! ### law -/
theorem sc_law : FnScope ["script", "cup", "turn"] ["script"] (defScope (top 44)) := ⟨rfl, rfl, rfl, by decide +kernel, rfl, by decide +kernel, by decide +kernel⟩
@[irreducible] noncomputable def b_law_1 : FS := (sIf (orT (notT (tru (eCall 1 F__law_balances_right (aCons (gv 1) aNil)))) (orT (notT (tru (eCall 1 F__law_goals_right (aCons (gv 1) aNil)))) (notT (tru (eCall 1 F__law_times_right (aCons (gv 1) aNil)))))) (sRet (cst (.bl false))) sNil)
@[irreducible] noncomputable def b_law : FS := (sSeq (sAsg (eCall 1 F__law_cup (aCons (gv 0) aNil)) (bN 1))
    (sSeq (sFor fuel (iRng1 (aCons (cst (.int 4)) aNil)) (bN 2) b_law_1)
    (sRet (eCall 1 F__law_late_right (aCons (gv 1) aNil)))))
noncomputable def F_law : FF := runF 3 (b_law)
theorem law_fn {P : Program} {w : World} {K : PySem.W.Frag} {mg : Str → Option Value} {base : Heap} (S : Fx K mg) {fd : FuncData} (F : FunD K "law" "law" (defArgs (top 44)) (defBody (top 44)) (defScope (top 44)) [] [] (He.ga K "law") fd) : FnOk P w K mg base (L2.CX P w) 8 (He.ga K "law") fd ["script"] (spD K 1 F_law) := by
  have c__law_balances_right := ok__law_balances_right (P := P) (w := w) (base := base) S
  have c__law_cup := ok__law_cup (P := P) (w := w) (base := base) S
  have c__law_goals_right := ok__law_goals_right (P := P) (w := w) (base := base) S
  have c__law_late_right := ok__law_late_right (P := P) (w := w) (base := base) S
  have c__law_times_right := ok__law_times_right (P := P) (w := w) (base := base) S
  have sc := sc_law
  have hN := sc.nd
  refine fn_ok (k := 7) F sc rfl (fun cdv A outer s H E hr => ?_)
  have tk : Takes (cxOf (L2.CX P w) P w K mg base ["script", "cup", "turn"] "law" (defScope (top 44)) (He.ga K "law") cdv A outer s H E) (fun c d _ H => E c d H) := takes_of rfl rfl rfl rfl
  have hp : PassesOwn (model P w) (A.deeper (envOfC "law" (defScope (top 44)) s.heap.objs.size (He.ga K "law") cdv)) (envOfC "law" (defScope (top 44)) s.heap.objs.size (He.ga K "law") cdv) (cxOf (L2.CX P w) P w K mg base ["script", "cup", "turn"] "law" (defScope (top 44)) (He.ga K "law") cdv A outer s H E).xe := passes_of rfl
  have hu := hr.units
  exact (by unfold b_law b_law_1; exact (dss_cons (ds_set 1 hN (de_callF c__law_cup tk (hr.mono (by omega)) (da_cons (de_v 0) da_nil)))
    (dss_cons (ds_for hp rfl (di_range1 S.b_range (da_cons de_int da_nil)) (dg_n 2 hN) (dss_one (ds_if (dt_w (dw_or (dt_not (dt_tru (de_callF c__law_balances_right tk (hr.mono (by omega)) (da_cons (de_v 1) da_nil)))) (dw_or (dt_not (dt_tru (de_callF c__law_goals_right tk (hr.mono (by omega)) (da_cons (de_v 1) da_nil)))) (dw_or1 (dt_not (dt_tru (de_callF c__law_times_right tk (hr.mono (by omega)) (da_cons (de_v 1) da_nil)))))))) (dss_one (ds_ret de_bl)) dss_nil)))
    (dss_one (ds_ret (de_callF c__law_late_right tk (hr.mono (by omega)) (da_cons (de_v 1) da_nil)))))))
end K89
namespace K89
open PySem PySem.Spec PyProof.Rows L2 Dn
/-! ### the head -/
def fn : List He.DefD := ([dfn "is_whole" (top 5), dfn "fits_whole" (top 6), dfn "is_tuple_of" (top 7), dfn "common_divisor" (top 8), dfn "fits_plan" (top 15), dfn "need_plan" (top 16), dfn "need_number" (top 17), dfn "power_of" (top 18), dfn "parts_in" (top 19), dfn "held_in" (top 20), dfn "lowest" (top 21), dfn "reaches" (top 22), dfn "first_reach" (top 23), dfn "ceiling" (top 24), dfn "is_plan" (top 25), dfn "balance" (top 26), dfn "whole_balance" (top 27), dfn "periods_to" (top 28), dfn "least_deposit" (top 29), dfn "least_start" (top 30), dfn "times_to" (top 31), dfn "_law_cup" (top 33), dfn "_law_roll" (top 34), dfn "_law_some" (top 35), dfn "_law_same" (top 36), dfn "_law_lowest" (top 37), dfn "_law_plan" (top 38), dfn "_law_steps" (top 39), dfn "_law_balances_right" (top 40), dfn "_law_goals_right" (top 41)] : List He.DefD) ++ ([dfn "_law_times_right" (top 42), dfn "_law_late_right" (top 43), dfn "law" (top 44)] : List He.DefD)
def fa : List He.Fa := ([.glo "is_whole", .glo "fits_whole", .glo "is_tuple_of", .glo "common_divisor", .glo "fits_plan", .glo "need_plan", .glo "need_number", .glo "power_of", .glo "parts_in", .glo "held_in", .glo "lowest", .glo "reaches", .glo "first_reach", .glo "ceiling", .glo "is_plan", .glo "balance", .glo "whole_balance", .glo "periods_to", .glo "least_deposit", .glo "least_start", .glo "times_to", .glo "_law_cup", .glo "_law_roll", .glo "_law_some", .glo "_law_same", .glo "_law_lowest", .glo "_law_plan", .glo "_law_steps", .glo "_law_balances_right", .glo "_law_goals_right"] : List He.Fa) ++ ([.glo "_law_times_right", .glo "_law_late_right", .glo "law", .free "isinstance", .free "int", .free "bool", .free "tuple", .free "len", .free "all", .free "abs", .free "max", .free "range", .free "list", .free "str", .free "min", .int "GREAT" 1000000, .int "GOAL" 1000000000, .int "RATE" 10000, .int "PERIODS" 300, .int "FAR" 1000] : List He.Fa)
theorem fx_of {K : PySem.W.Frag} {h : Heap} {mg : Str → Option Value} (X : K.In h) (G : h.Ns mainGlobals mg) (c : He.SaysD fa fn K) : Fx K mg :=
  ⟨fn1_of X G c 0 0 rfl rfl,
  fn1_of X G c 1 1 rfl rfl,
  fn1_of X G c 2 2 rfl rfl,
  fn1_of X G c 3 3 rfl rfl,
  fn1_of X G c 4 4 rfl rfl,
  fn1_of X G c 5 5 rfl rfl,
  fn1_of X G c 6 6 rfl rfl,
  fn1_of X G c 7 7 rfl rfl,
  fn1_of X G c 8 8 rfl rfl,
  fn1_of X G c 9 9 rfl rfl,
  fn1_of X G c 10 10 rfl rfl,
  fn1_of X G c 11 11 rfl rfl,
  fn1_of X G c 12 12 rfl rfl,
  fn1_of X G c 13 13 rfl rfl,
  fn1_of X G c 14 14 rfl rfl,
  fn1_of X G c 15 15 rfl rfl,
  fn1_of X G c 16 16 rfl rfl,
  fn1_of X G c 17 17 rfl rfl,
  fn1_of X G c 18 18 rfl rfl,
  fn1_of X G c 19 19 rfl rfl,
  fn1_of X G c 20 20 rfl rfl,
  fn1_of X G c 21 21 rfl rfl,
  fn1_of X G c 22 22 rfl rfl,
  fn1_of X G c 23 23 rfl rfl,
  fn1_of X G c 24 24 rfl rfl,
  fn1_of X G c 25 25 rfl rfl,
  fn1_of X G c 26 26 rfl rfl,
  fn1_of X G c 27 27 rfl rfl,
  fn1_of X G c 28 28 rfl rfl,
  fn1_of X G c 29 29 rfl rfl,
  fn1_of X G c 30 30 rfl rfl,
  fn1_of X G c 31 31 rfl rfl,
  fn1_of X G c 32 32 rfl rfl,
  He.free_ok X G (c.fact 33 (f := .free "isinstance") rfl),
  He.free_ok X G (c.fact 34 (f := .free "int") rfl),
  He.free_ok X G (c.fact 35 (f := .free "bool") rfl),
  He.free_ok X G (c.fact 36 (f := .free "tuple") rfl),
  He.free_ok X G (c.fact 37 (f := .free "len") rfl),
  He.free_ok X G (c.fact 38 (f := .free "all") rfl),
  He.free_ok X G (c.fact 39 (f := .free "abs") rfl),
  He.free_ok X G (c.fact 40 (f := .free "max") rfl),
  He.free_ok X G (c.fact 41 (f := .free "range") rfl),
  He.free_ok X G (c.fact 42 (f := .free "list") rfl),
  He.free_ok X G (c.fact 43 (f := .free "str") rfl),
  He.free_ok X G (c.fact 44 (f := .free "min") rfl),
  He.int_ok X G (c.fact 45 (f := .int "GREAT" 1000000) rfl),
  He.int_ok X G (c.fact 46 (f := .int "GOAL" 1000000000) rfl),
  He.int_ok X G (c.fact 47 (f := .int "RATE" 10000) rfl),
  He.int_ok X G (c.fact 48 (f := .int "PERIODS" 300) rfl),
  He.int_ok X G (c.fact 49 (f := .int "FAR" 1000) rfl)⟩
abbrev R : PySem.W.OpenRow := PySem.W.OpenLaw.row PySem.Challenge.rw_coinmaster_k89_whole_balances_of_savings
abbrev hk : PySem.W.Hook := He.hookD 4 fa fn
def ob (s : PySem.W.SharedT) : He.AlD := He.obsDG 4 fa fn (HandSHeadRun.getT s)
theorem ob_eq (s : PySem.W.SharedT) : ob s = hk.obs s.abs := He.obsDG_eq (HandSHeadRun.getT_eq s)
def loose : List Str := (["MintError", "InvalidCosts", "InvalidNumber", "is_whole", "fits_whole", "is_tuple_of", "common_divisor", "GREAT", "GOAL", "RATE", "PERIODS", "FAR", "fits_plan", "need_plan", "need_number", "power_of", "parts_in", "held_in", "lowest", "reaches", "first_reach", "ceiling", "is_plan", "balance", "whole_balance", "periods_to", "least_deposit", "least_start", "times_to", "_law_cup"] : List Str) ++ (["_law_roll", "_law_some", "_law_same", "_law_lowest", "_law_plan", "_law_steps", "_law_balances_right", "_law_goals_right", "_law_times_right", "_law_late_right"] : List Str)
theorem run (w : World) : HandSHeadRun.RunEq R (PySem.W.view R.prog [44]) hk ob 4000 loose w := by
  intro os
  kernel_rfl
end K89
namespace K89
open PySem PySem.Spec PyProof.Rows L2 Dn
theorem cup_ok : CupOk F__law_cup := by
  intro ns hl
  refine (fun (h : wpR (F__law_cup [.scr (ns.map D.int)] []) (fun d η => d = .obj 0 ∧ Cup 0 η) (fun _ _ => False)) => ?_) ?_
  · obtain ⟨a, η, e, rfl, c⟩ := ok_of_wpR h
    exact ⟨η, e, c⟩
  unfold F__law_cup b__law_cup
  rw [w_runF]
  have key : ∃ c : Int, atI (ns.map D.int ++ [.int 0]) 0 = some (.int c) := by
    cases ns with
    | nil => exact ⟨0, by simp⟩
    | cons n r => exact ⟨n, by simp⟩
  obtain ⟨c, hc⟩ := key
  have h64 : ns.length + 1 ≤ sizeLine := Nat.le_trans (Nat.succ_le_succ hl) (by decide)
  simp [hc, h64]
  generalize hA : (if c < 0 then -c else c) = A
  have h0 : 0 ≤ A := by rw [← hA]; split <;> omega
  have hm : (A * 331 + 3919) % 2077502087 + 199 ≥ 0 := by have := Int.emod_nonneg (A * 331 + 3919) (show (2077502087 : Int) ≠ 0 by decide); omega
  split
  · exact ⟨_, _, by omega, hm, rfl⟩
  · exact ⟨_, _, by omega, hm, rfl⟩
theorem roll_ok : RollOk F__law_roll := by
  intro k η m ⟨a, b, ha, hb, e⟩ h0 h1
  refine (fun (h : wpR (F__law_roll [.obj k, .int m] η) (fun d η' => ∃ r, d = .int r ∧ 0 ≤ r ∧ r < m ∧ Cup k η' ∧ Keep k η η') (fun _ _ => False)) => ?_) ?_
  · obtain ⟨d, η', e, r, rfl, h2, h3, c, kp⟩ := ok_of_wpR h
    exact ⟨r, η', e, h2, h3, c, kp⟩
  unfold F__law_roll b__law_roll
  rw [w_runF]
  have cu : Cup k η := ⟨a, b, ha, hb, e⟩
  have kl := cu.lt
  have hd : divOk m := ⟨h0, .inl h1⟩
  by_cases h : 0 < a
  · simp [ixD_obj e, setD_obj e, h, h0, hd, ixN, kl]
    exact ⟨Int.emod_nonneg _ (by omega), Int.emod_lt_of_pos _ h0, ⟨a / m, b, Int.ediv_nonneg ha (by omega), hb, by simp [kl]⟩, Keep.set⟩
  · have e2 : ∀ x : D, (η.set k (.lst [.int a, x]))[k]? = some (.lst [.int a, x]) := fun x => by simp [kl]
    have hb2 : 0 ≤ (b * 30713 + 7759) % 2147482951 := Int.emod_nonneg _ (by decide)
    have hb3 : (b * 30713 + 7759) % 2147482951 < 2147482951 := Int.emod_lt_of_pos _ (by decide)
    have hmul : mulOk ((b * 30713 + 7759) % 2147482951) ((b * 30713 + 7759) % 2147482951 + 229) := mulOk_l (by omega) (by omega)
    simp [ixD_obj e, setD_obj e, h, h0, hd, ixN, kl, ixD_obj (e2 _), hmul]
    exact ⟨Int.emod_nonneg _ (by omega), Int.emod_lt_of_pos _ h0, ⟨a, _, ha, hb2, by simp [kl]⟩, Keep.set⟩
theorem some_ok : SomeOk F__law_some := by
  intro k η xs c h0 h1
  refine (fun (h : wpR (F__law_some [.obj k, .lst xs] η) (fun x η' => ∃ i : Nat, xs[i]? = some x ∧ Cup k η' ∧ Keep k η η') (fun _ _ => False)) => ?_) ?_
  · obtain ⟨d, η', e, i, h2, c, kp⟩ := ok_of_wpR h
    exact ⟨i, d, η', e, h2, c, kp⟩
  unfold F__law_some b__law_some
  rw [w_runF]
  simp
  refine roll_ok.wp c (by omega) (by omega) fun r η' h2 h3 c2 kp => ?_
  have hr : r.toNat < xs.length := by omega
  simp [atI_pos h2 h3, List.getElem?_eq_getElem hr]
  exact ⟨⟨r.toNat, by simp [hr]⟩, c2, kp⟩
theorem same_ok : SameOk F__law_same := by
  intro n
  induction n with
  | zero =>
    intro d η h
    refine ok_of_wpR1 ?_
    unfold F__law_same b__law_same
    rw [w_runF]
    cases d with
    | non => simp
    | bl b => cases b <;> simp
    | int i => simp
    | str x =>
      have hx : PyData.canLay0 (.str x) = true := by simpa [D.sm] using h
      simp [strD, eqD_str hx]
    | _ => simp [D.sm] at h
  | succ n ih =>
    intro d η h
    refine ok_of_wpR1 ?_
    unfold F__law_same b__law_same
    rw [w_runF]
    cases d with
    | non => simp
    | bl b => cases b <;> simp
    | int i => simp
    | str x =>
      have hx : PyData.canLay0 (.str x) = true := by simpa [D.sm] using h
      simp [strD, eqD_str hx]
    | tup xs =>
      simp [D.sm] at h
      have hb : big62 (xs.length : Int) := ⟨by omega, by omega⟩
      simp [w_lc, hb, w_nx, cmpS]
      refine wpR_of (cmp_map (fun _ => .bl true) _ fun x hx => ?_) ?_
      · obtain ⟨i, hi, rfl⟩ := mem_rng.mp hx
        replace hi : i < xs.length := by simpa using hi
        refine ⟨_, rfl, rfl, ok_of_wpR1 ?_⟩
        have e : atI xs (i : Int) = some xs[i] := atI_nat hi
        simp [wipeD, e]
        exact wpR_of (ih _ η (h.1 _ (List.getElem_mem hi))) ⟨rfl, rfl⟩
      · rw [map_const, rng_length]
        simp [allD_lst, boolsOf_true]
        exact szle h.2
    | _ => simp [D.sm] at h
end K89
namespace K89
open PySem PySem.Spec PyProof.Rows L2 Dn
variable {η : Store}
theorem whole_ok {d : D} {a : Ty} (h : tyOf d η = some a) : F_is_whole [d] η = .ok (.bl (decide (a = .int))) η := by
  refine ok_of_wpR1 ?_
  unfold F_is_whole b_is_whole
  rw [w_runF]
  have e1 : ∀ {n : String} {b : Ty}, tyNm n = some b → isiD [d, .ty n] η = some (.bl (tyB a b), η) := fun e => isi_of h e
  simp [e1 tyNm_int, e1 tyNm_bool]
  cases a <;> simp
theorem fits_int {i lo hi : Int} : F_fits_whole [.int i, .int lo, .int hi] η = .ok (.bl (decide (lo ≤ i) && decide (i ≤ hi))) η := by
  refine ok_of_wpR1 ?_
  unfold F_fits_whole b_fits_whole
  rw [w_runF]
  simp
  refine wpR_of (whole_ok rfl) ?_
  by_cases h : lo ≤ i <;> simp [h]
theorem fits_yes {i lo hi : Int} (h : lo ≤ i) (h2 : i ≤ hi) : F_fits_whole [.int i, .int lo, .int hi] η = .ok (.bl true) η := by
  rw [fits_int]; simp [h, h2]
theorem tupof_tup {xs : List D} {lo hi : Int} : F_is_tuple_of [.tup xs, .int lo, .int hi] η = .ok (.bl (decide (lo ≤ xs.length) && decide ((xs.length : Int) ≤ hi))) η := by
  refine ok_of_wpR1 ?_
  unfold F_is_tuple_of b_is_tuple_of
  rw [w_runF]
  by_cases h : lo ≤ (xs.length : Int) <;> simp [h]
/-! ### greatest common divisors, powers -/
theorem gcd_ok {a b : Int} (ha : 0 ≤ a) (hb : 0 ≤ b) (hz : b < 2 ^ 30000) : F_common_divisor [.int a, .int b] η = .ok (.int (Nat.gcd a.toNat b.toNat)) η := by
  refine ok_of_wpR1 ?_
  unfold F_common_divisor b_common_divisor
  rw [w_runF]
  simp
  refine w_whl (fun m ρ η' => ∃ x y : Int, ρ = [some (.int x), some (.int y)] ∧ 0 ≤ x ∧ 0 ≤ y ∧ y.toNat ≤ m ∧ Nat.gcd x.toNat y.toNat = Nat.gcd a.toNat b.toNat ∧ η' = η) ?_ b.toNat fuel ⟨a, b, rfl, ha, hb, Nat.le_refl _, rfl, rfl⟩ (fuel_lt (n := 30000) (by
    have : ((b.toNat : Nat) : Int) < 2 ^ 30000 := by omega
    exact_mod_cast this) (by decide))
  rintro m ρ η2 ⟨x, y, rfl, hx, hy, hm, hg, rfl⟩
  simp
  by_cases h : 0 < y
  · rw [if_pos h]
    refine ⟨m - 1, by omega, ?_⟩
    unfold b_common_divisor_1
    simp [h]
    have h2 := Int.emod_lt_of_pos x h
    have h3 := Int.emod_nonneg x (show y ≠ 0 by omega)
    refine ⟨_, _, ⟨rfl, rfl⟩, hy, h3, by omega, ?_⟩
    rw [← hg]
    have e : (x % y).toNat = x.toNat % y.toNat := by
      have : ((x % y).toNat : Int) = ((x.toNat % y.toNat : Nat) : Int) := by
        rw [Int.toNat_of_nonneg h3, Int.natCast_emod, Int.toNat_of_nonneg hx, Int.toNat_of_nonneg hy]
      exact_mod_cast this
    rw [e, Nat.gcd_comm, ← Nat.gcd_rec, Nat.gcd_comm]
  · rw [if_neg h]
    have hy0 : y = 0 := by omega
    subst hy0
    simp at hg
    omega
theorem log_le {x k : Nat} (h : x < 2 ^ k) : x.log2 ≤ k := by
  by_cases h0 : x = 0
  · subst h0; simp
  · exact Nat.le_of_lt ((Nat.log2_lt h0).mpr h)
theorem mulW {x y : Int} {k : Nat} (hk : k ≤ 400000) (hx : x.natAbs < 2 ^ k) (hy : y.natAbs < 2 ^ k) : mulOk x y := .inr (by
  have h1 := log_le hx
  have h2 := log_le hy
  show x.natAbs.log2 + y.natAbs.log2 < 1000000
  omega)
theorem pow_size {B N : Nat} (hB : B ≤ 32768) (hN : N ≤ 1000) : B ^ N < 2 ^ 15001 := by
  refine Nat.lt_of_le_of_lt (Nat.pow_le_pow_left hB N) ?_
  have e : (32768 : Nat) = 2 ^ 15 := rfl
  rw [e, ← Nat.pow_mul]
  exact Nat.pow_lt_pow_right (by decide) (by omega)
def Ipow (B N : Nat) (η : Store) (m : Nat) (ρ : Dn.Env) (η' : Store) : Prop := ∃ F X Y : Nat, ρ = [some (.int X), some (.int Y), some (.int F)] ∧ 1 ≤ F ∧ 1 ≤ X ∧ Y ≤ m ∧ F * X ^ Y = B ^ N ∧ (Y = 0 ∨ ∃ e, X = B ^ e ∧ e * Y ≤ N) ∧ η' = η
theorem pow_ok {B N : Nat} (h0 : 1 ≤ B) (hB : B ≤ 32768) (hN : N ≤ 1000) : F_power_of [.int B, .int N] η = .ok (.int (B ^ N : Nat)) η := by
  refine ok_of_wpR1 ?_
  unfold F_power_of b_power_of
  rw [w_runF]
  simp
  refine w_whl (Ipow B N η) ?_ N fuel ⟨1, B, N, rfl, Nat.le_refl _, h0, Nat.le_refl _, by simp, .inr ⟨1, by simp, by omega⟩, rfl⟩ (fuel_lt (n := 10) (by omega) (by decide))
  rintro m ρ η2 ⟨F, X, Y, rfl, hF, hX, hm, hp, he, rfl⟩
  simp
  by_cases h : 0 < Y
  · rw [if_pos h]
    refine ⟨m - 1, by omega, ?_⟩
    obtain ⟨e, rfl, heY⟩ : ∃ e, X = B ^ e ∧ e * Y ≤ N := by
      rcases he with he | he
      · omega
      · exact he
    have heN : e ≤ N := Nat.le_trans (Nat.le_mul_of_pos_right e h) heY
    have sX : B ^ e < 2 ^ 15001 := pow_size hB (by omega)
    have hXY : 1 ≤ (B ^ e) ^ Y := Nat.one_le_pow _ _ hX
    have sF : F < 2 ^ 15001 := by
      refine Nat.lt_of_le_of_lt ?_ (pow_size hB hN)
      rw [← hp]
      exact Nat.le_mul_of_pos_right F hXY
    have m1 : mulOk (F : Int) ((B ^ e : Nat) : Int) := mulW (k := 15001) (by decide) (by simpa using sF) (by rw [Int.natAbs_natCast]; exact sX)
    have m2 : mulOk ((B ^ e : Nat) : Int) ((B ^ e : Nat) : Int) := mulW (k := 15001) (by decide) (by rw [Int.natAbs_natCast]; exact sX) (by rw [Int.natAbs_natCast]; exact sX)
    have eY : ((Y : Int) / 2) = ((Y / 2 : Nat) : Int) := by omega
    have next : Y / 2 = 0 ∨ ∃ e2, (B ^ e) * (B ^ e) = B ^ e2 ∧ e2 * (Y / 2) ≤ N := by
      refine .inr ⟨e + e, (Nat.pow_add B e e).symm, ?_⟩
      have : (e + e) * (Y / 2) = e * (2 * (Y / 2)) := by rw [← Nat.two_mul, Nat.mul_comm 2 e, Nat.mul_assoc]
      rw [this]
      exact Nat.le_trans (Nat.mul_le_mul_left e (by omega)) heY
    have sq : ∀ z : Nat, (B ^ e * B ^ e) ^ z = (B ^ e) ^ (2 * z) := fun z => by rw [← Nat.pow_two, ← Nat.pow_mul]
    have hX2 : 1 ≤ B ^ e * B ^ e := Nat.mul_pos hX hX
    unfold b_power_of_1
    simp only [w_par3, w_ifE, w_tst, w_e2, w_gv, w_cst, List.getElem?_cons_zero, List.getElem?_cons_succ, wpO_some, wpO_modD, eqD_int, isB_bl, wpO_mulD, wpO_fdivD]
    refine ⟨by decide, ?_⟩
    by_cases hodd : (Y : Int) % 2 = 1
    · rw [if_pos (by simpa using hodd)]
      refine ⟨m1, m2, divOk_lit (by decide) (by decide), F * B ^ e, B ^ e * B ^ e, Y / 2, ?_, Nat.mul_pos hF hX, hX2, by omega, ?_, next, rfl⟩
      · rw [eY]; simp
      · rw [sq, Nat.mul_assoc, ← hp]
        congr 1
        have : Y = 1 + 2 * (Y / 2) := by omega
        conv => rhs; rw [this]
        rw [Nat.pow_add]; simp
    · rw [if_neg (by simpa using hodd)]
      refine ⟨m2, divOk_lit (by decide) (by decide), F, B ^ e * B ^ e, Y / 2, ?_, hF, hX2, by omega, ?_, next, rfl⟩
      · rw [eY]; simp
      · rw [sq, ← hp]
        have : Y = 2 * (Y / 2) := by omega
        conv => rhs; rw [this]
  · rw [if_neg h]
    have hy0 : Y = 0 := by omega
    subst hy0
    simp at hp
    rw [hp]
    simp
end K89
namespace K89
open PySem PySem.Spec PyProof.Rows L2 Dn
variable {η : Store}
/-- a plan: start, deposit, many, of -/
structure Pl where
  s : Nat
  d : Nat
  m : Nat
  o : Nat
def Pl.D (p : Pl) : D := .tup [.int p.s, .int p.d, .int p.m, .int p.o]
structure Pl.Ok (p : Pl) : Prop where
  s : p.s ≤ 1000000
  d : p.d ≤ 1000000
  o1 : 1 ≤ p.o
  o2 : p.o ≤ 10000
  m : p.m ≤ p.o
def Gr (p : Pl) (n : Nat) : Nat := (p.o + p.m) ^ n
def Bl (p : Pl) (n : Nat) : Nat := p.o ^ n
def Qu (p : Pl) : Nat → Nat
  | 0 => 0
  | n + 1 => Qu p n * (p.o + p.m) + Bl p (n + 1)
def To (p : Pl) (n : Nat) : Nat := p.s * Gr p n + p.d * Qu p n
theorem Bl_succ (p : Pl) (n : Nat) : Bl p (n + 1) = Bl p n * p.o := rfl
theorem Gr_succ (p : Pl) (n : Nat) : Gr p (n + 1) = Gr p n * (p.o + p.m) := rfl
theorem Qu_mul (p : Pl) : ∀ n, p.m * Qu p n + Bl p n * p.o = Gr p n * p.o
  | 0 => by simp [Qu, Bl, Gr]
  | n + 1 => by
    have ih := Qu_mul p n
    rw [Gr_succ, Bl_succ]
    show p.m * (Qu p n * (p.o + p.m) + Bl p n * p.o) + Bl p n * p.o * p.o = _
    have e : Gr p n * (p.o + p.m) * p.o = (Gr p n * p.o) * (p.o + p.m) := by rw [Nat.mul_assoc, Nat.mul_comm (p.o + p.m), ← Nat.mul_assoc]
    rw [e, ← ih]
    simp only [Nat.mul_add, Nat.add_mul]
    have c1 : p.m * (Qu p n * p.o) = p.m * Qu p n * p.o := by rw [Nat.mul_assoc]
    have c2 : p.m * (Qu p n * p.m) = p.m * Qu p n * p.m := by rw [Nat.mul_assoc]
    have c3 : p.m * (Bl p n * p.o) = Bl p n * p.o * p.m := by rw [Nat.mul_comm]
    omega
theorem Qu_zero (p : Pl) (h : p.m = 0) : ∀ n, Qu p n = n * Bl p n
  | 0 => by simp [Qu]
  | n + 1 => by
    show Qu p n * (p.o + p.m) + Bl p n * p.o = (n + 1) * (Bl p n * p.o)
    rw [Qu_zero p h n, h, Nat.add_zero, Nat.add_mul, Nat.mul_assoc, Nat.one_mul]
theorem Qu_le (p : Pl) : ∀ n, Qu p n ≤ n * Gr p n
  | 0 => by simp [Qu]
  | n + 1 => by
    have ih := Qu_le p n
    show Qu p n * (p.o + p.m) + Bl p (n + 1) ≤ (n + 1) * (Gr p n * (p.o + p.m))
    have h1 : Qu p n * (p.o + p.m) ≤ n * Gr p n * (p.o + p.m) := Nat.mul_le_mul_right _ ih
    have h2 : Bl p (n + 1) ≤ Gr p (n + 1) := Nat.pow_le_pow_left (by omega) _
    rw [Nat.add_mul, Nat.one_mul, ← Nat.mul_assoc, ← Gr_succ]
    omega
theorem Bl_pos {p : Pl} (h : p.Ok) (n : Nat) : 1 ≤ Bl p n := Nat.one_le_pow _ _ h.o1
theorem Gr_pos {p : Pl} (h : p.Ok) (n : Nat) : 1 ≤ Gr p n := Nat.one_le_pow _ _ (by have := h.o1; omega)
theorem Bl_Qu {p : Pl} (h : p.Ok) (n : Nat) : Bl p (n + 1) ≤ Qu p (n + 1) := Nat.le_add_left _ _
theorem parts_ok {p : Pl} (h : p.Ok) {n : Nat} (hn : n ≤ 1000) : F_parts_in [p.D, .int n] η = .ok (.tup [.int (Gr p n), .int (Qu p n), .int (Bl p n)]) η := by
  refine ok_of_wpR1 ?_
  have h1 := h.o1
  have h2 := h.o2
  have h3 := h.m
  unfold F_parts_in b_parts_in
  rw [w_runF]
  have e1 : F_power_of [.int ((p.o : Int) + p.m), .int n] η = .ok (.int (Gr p n)) η := by
    have := pow_ok (η := η) (B := p.o + p.m) (N := n) (by omega) (by omega) hn
    rw [← Int.natCast_add]; exact this
  have e2 : F_power_of [.int p.o, .int n] η = .ok (.int (Bl p n)) η := pow_ok h1 (by omega) hn
  simp [Pl.D]
  have a2 : atI [D.int p.s, .int p.d, .int p.m, .int p.o] 3 = some (.int p.o) := rfl
  rw [a2]
  simp
  refine wpR_of e1 ?_
  refine wpR_of e2 ?_
  by_cases hm : p.m = 0
  · simp [hm]
    rw [Qu_zero p hm]
    exact ⟨mulOk_l (by omega) (by omega), by simp⟩
  · simp [hm]
    refine ⟨mulOk_r (by omega) (by omega), divOk_lit (by omega) (by omega), ?_⟩
    have q := Qu_mul p n
    have e : ((Gr p n : Int) - Bl p n) * p.o = (p.m : Int) * Qu p n := by
      have q' : (p.m : Int) * Qu p n + Bl p n * p.o = Gr p n * p.o := by exact_mod_cast q
      rw [Int.sub_mul]; omega
    rw [e, Int.mul_ediv_cancel_left _ (by omega)]
theorem held_ok {p : Pl} (h : p.Ok) {n : Nat} (hn : n ≤ 1000) : F_held_in [p.D, .int n] η = .ok (.tup [.int (To p n), .int (Bl p n)]) η := by
  refine ok_of_wpR1 ?_
  unfold F_held_in b_held_in
  rw [w_runF]
  have h1 := h.s
  have h2 := h.d
  simp
  refine wpR_of (parts_ok h hn) ?_
  simp [Pl.D]
  refine ⟨mulOk_l (by omega) (by omega), mulOk_l (by omega) (by omega), ?_⟩
  unfold To; simp
theorem fitsplan_ok {p : Pl} (h : p.Ok) : F_fits_plan [p.D] η = .ok (.bl true) η := by
  refine ok_of_wpR1 ?_
  unfold F_fits_plan b_fits_plan
  rw [w_runF]
  simp [w_lc, w_nx, cmpS, Pl.D]
  refine wpR_of tupof_tup ?_
  simp
  have ec : cutL [D.int p.s, .int p.d, .int p.m, .int p.o] none (some 2) = [D.int p.s, .int p.d] := rfl
  rw [ec]
  refine wpR_of (cmp_map (fun _ => .bl true) _ fun x hx => ⟨_, rfl, rfl, ok_of_wpR1 ?_⟩) ?_
  · simp at hx
    simp [wipeD]
    have h1 := h.s
    have h2 := h.d
    rcases hx with rfl | rfl
    · exact wpR_of (fits_yes (by omega) (by omega)) ⟨rfl, rfl⟩
    · exact wpR_of (fits_yes (by omega) (by omega)) ⟨rfl, rfl⟩
  · have a2 : atI [D.int p.s, .int p.d, .int p.m, .int p.o] 3 = some (.int p.o) := rfl
    have h1 := h.o1
    have h2 := h.o2
    have h3 := h.m
    simp [allD_lst, a2]
    refine wpR_of (fits_yes (by omega) (by omega)) ?_
    simp
    refine wpR_of (fits_yes (by omega) (by omega)) ?_
    simp
theorem isplan_ok {p : Pl} (h : p.Ok) : F_is_plan [p.D] η = .ok (.bl true) η := by
  refine ok_of_wpR1 ?_
  unfold F_is_plan b_is_plan
  rw [w_runF]
  simp
  exact wpR_of (fitsplan_ok h) ⟨rfl, rfl⟩
theorem needplan_ok {p : Pl} (h : p.Ok) : F_need_plan [p.D] η = .ok .non η := by
  refine ok_of_wpR1 ?_
  unfold F_need_plan b_need_plan
  rw [w_runF]
  simp
  refine wpR_of (fitsplan_ok h) ?_
  simp
theorem neednum_ok {i lo hi : Int} (h : lo ≤ i) (h2 : i ≤ hi) : F_need_number [.int i, .int lo, .int hi] η = .ok .non η := by
  refine ok_of_wpR1 ?_
  unfold F_need_number b_need_number
  rw [w_runF]
  simp
  refine wpR_of (fits_yes h h2) ?_
  simp
end K89
namespace K89
open PySem PySem.Spec PyProof.Rows L2 Dn
variable {η : Store}
/-! ### lowest terms -/
theorem div_big {k : Nat} {x : Nat} (h0 : 0 < x) (h : x < 2 ^ 8999) : divOk (x : Int) := ⟨by omega, .inr (by
  rw [Int.natAbs_natCast]
  have := log_le h
  omega)⟩
theorem lt_pow {x : Nat} (h : x < 2 ^ 8999) : x < 2 ^ 30000 := Nat.lt_of_lt_of_le h (Nat.pow_le_pow_right (by decide) (by decide))
theorem lowest_ok {T B : Nat} (h0 : 0 < B) (h : B < 2 ^ 8999) : F_lowest [.int T, .int B] η = .ok (.tup [.int ((T / Nat.gcd T B : Nat) : Int), .int ((B / Nat.gcd T B : Nat) : Int)]) η := by
  refine ok_of_wpR1 ?_
  unfold F_lowest b_lowest
  rw [w_runF]
  have e : (if (T : Int) < 0 then -(T : Int) else (T : Int)) = T := if_neg (by omega)
  simp [e]
  have hb : (B : Int) < 2 ^ 30000 := by exact_mod_cast lt_pow h
  refine wpR_of (gcd_ok (a := T) (b := B) (by omega) (by omega) hb) ?_
  have hg : Nat.gcd T B ≤ B := Nat.gcd_le_right T h0
  have hg0 : 0 < Nat.gcd T B := Nat.gcd_pos_of_pos_right T h0
  have hd : divOk ((Nat.gcd T B : Nat) : Int) := div_big (k := 0) hg0 (Nat.lt_of_le_of_lt hg h)
  simp [hd]
def Ilow (T B : Nat) (η : Store) (m : Nat) (ρ : Dn.Env) (η' : Store) : Prop := ∃ x y : Int, ρ = [some (.int T), some (.int B), some (.int x), some (.int y)] ∧ 0 ≤ x ∧ 0 ≤ y ∧ y.toNat ≤ m ∧ Nat.gcd x.toNat y.toNat = Nat.gcd T B ∧ η' = η
theorem llowest_ok {T B : Nat} (h0 : 0 < B) (h : B < 2 ^ 8999) : F__law_lowest [.int T, .int B] η = .ok (.tup [.int ((T / Nat.gcd T B : Nat) : Int), .int ((B / Nat.gcd T B : Nat) : Int)]) η := by
  refine ok_of_wpR1 ?_
  unfold F__law_lowest b__law_lowest
  rw [w_runF]
  have e : (if (T : Int) < 0 then -(T : Int) else (T : Int)) = T := if_neg (by omega)
  simp [e]
  refine w_whl (Ilow T B η) ?_ B fuel ⟨T, B, rfl, by omega, by omega, by simp, by simp, rfl⟩ (fuel_lt (n := 30000) (lt_pow h) (by decide))
  rintro m ρ η2 ⟨x, y, rfl, hx, hy, hm, hg, rfl⟩
  simp
  by_cases h : 0 < y
  · rw [if_pos h]
    refine ⟨m - 1, by omega, ?_⟩
    unfold b__law_lowest_1
    have h2 := Int.emod_lt_of_pos x h
    have h3 := Int.emod_nonneg x (show y ≠ 0 by omega)
    simp [h]
    refine ⟨y, x % y, rfl, hy, h3, by omega, ?_, rfl⟩
    rw [← hg]
    have e : (x % y).toNat = x.toNat % y.toNat := by
      have : ((x % y).toNat : Int) = ((x.toNat % y.toNat : Nat) : Int) := by
        rw [Int.toNat_of_nonneg h3, Int.natCast_emod, Int.toNat_of_nonneg hx, Int.toNat_of_nonneg hy]
      exact_mod_cast this
    rw [e, Nat.gcd_comm, ← Nat.gcd_rec, Nat.gcd_comm]
  · rw [if_neg h]
    have hy0 : y = 0 := by omega
    subst hy0
    simp at hg
    have ex : x = ((Nat.gcd T B : Nat) : Int) := by omega
    subst ex
    have hg : Nat.gcd T B ≤ B := Nat.gcd_le_right T h0
    have hg0 : 0 < Nat.gcd T B := Nat.gcd_pos_of_pos_right T h0
    have hd : divOk ((Nat.gcd T B : Nat) : Int) := div_big (k := 0) hg0 (Nat.lt_of_le_of_lt hg ‹_›)
    simp [hd]
theorem Bl_lt {p : Pl} (h : p.Ok) {n : Nat} (hn : n ≤ 300) : Bl p n < 2 ^ 8999 := by
  refine Nat.lt_of_le_of_lt (Nat.pow_le_pow_left (show p.o ≤ 2 ^ 14 by have := h.o2; omega) n) ?_
  rw [← Nat.pow_mul]
  exact Nat.pow_lt_pow_right (by decide) (by omega)
theorem Gr_lt {p : Pl} (h : p.Ok) {n : Nat} (hn : n ≤ 300) : Gr p n < 2 ^ 8900 := by
  refine Nat.lt_of_le_of_lt (Nat.pow_le_pow_left (show p.o + p.m ≤ 2 ^ 15 by have := h.o2; have := h.m; omega) n) ?_
  rw [← Nat.pow_mul]
  exact Nat.pow_lt_pow_right (by decide) (by omega)
theorem Qu_lt {p : Pl} (h : p.Ok) {n : Nat} (hn : n ≤ 300) : Qu p n < 2 ^ 8999 := by
  have h1 := Qu_le p n
  have h2 : n * Gr p n ≤ 300 * Gr p n := Nat.mul_le_mul_right _ hn
  have h3 := Gr_lt h hn
  have h4 : 300 * Gr p n < 2 ^ 9 * 2 ^ 8900 := Nat.lt_of_lt_of_le (Nat.mul_lt_mul_of_pos_left h3 (by decide)) (Nat.mul_le_mul_right _ (by decide))
  rw [← Nat.pow_add] at h4
  have h5 : (2 : Nat) ^ (9 + 8900) ≤ 2 ^ 8999 := Nat.pow_le_pow_right (by decide) (by decide)
  omega
def lowD (T B : Nat) : D := .tup [.int ((T / Nat.gcd T B : Nat) : Int), .int ((B / Nat.gcd T B : Nat) : Int)]
theorem balance_ok {p : Pl} (h : p.Ok) {n : Nat} (hn : n ≤ 300) : F_balance [p.D, .int n] η = .ok (lowD (To p n) (Bl p n)) η := by
  refine ok_of_wpR1 ?_
  unfold F_balance b_balance
  rw [w_runF]
  simp
  refine wpR_of (needplan_ok h) (wpR_of (neednum_ok (by omega) (by omega)) (wpR_of (held_ok h (by omega)) ?_))
  simp
  exact wpR_of (lowest_ok (Bl_pos h n) (Bl_lt h hn)) ⟨rfl, rfl⟩
/-! ### whole balances -/
def Wh (p : Pl) : Nat → Nat
  | 0 => p.s
  | n + 1 => Wh p n + Wh p n * p.m / p.o + p.d
theorem whole_step (p : Pl) (n : Nat) : ((Wh p n : Nat) : Int) + ((Wh p n : Nat) : Int) * p.m / p.o + p.d = ((Wh p (n + 1) : Nat) : Int) := by
  show _ = ((Wh p n + Wh p n * p.m / p.o + p.d : Nat) : Int)
  simp
def Iwh (p : Pl) (n : Nat) (η : Store) (i : Nat) (ρ : Dn.Env) (η' : Store) : Prop := ∃ x6 : Option D, ρ = [some p.D, some (.int n), some (.int (Wh p i)), some (.int p.d), some (.int p.m), some (.int p.o), x6] ∧ η' = η
theorem wholebal_ok {p : Pl} (h : p.Ok) {n : Nat} (hn : n ≤ 300) : F_whole_balance [p.D, .int n] η = .ok (.int (Wh p n)) η := by
  refine ok_of_wpR1 ?_
  have h2 := h.o1
  have h3 := h.o2
  have h4 := h.m
  unfold F_whole_balance b_whole_balance
  rw [w_runF]
  simp
  refine wpR_of (needplan_ok h) (wpR_of (neednum_ok (by omega) (by omega)) ?_)
  simp [w_for, Pl.D]
  refine ⟨⟨by omega, by omega⟩, ?_⟩
  refine w_forL (Iwh p n η) _ 0 ⟨_, rfl, rfl⟩ ?_ ?_
  · rintro j x hx ρ η2 ⟨x6, rfl, rfl⟩
    unfold b_whole_balance_1
    simp
    refine ⟨mulOk_r (by omega) (by omega), divOk_lit (by omega) (by omega), some x, ?_, rfl⟩
    rw [whole_step]
  · rintro ρ η2 ⟨x6, rfl, rfl⟩
    simp [rng_length]
/-! ### the first period that reaches a goal -/
def Re (p : Pl) (goal n : Nat) : Prop := goal * Bl p n ≤ To p n
theorem To_succ (p : Pl) (n : Nat) : To p (n + 1) = To p n * (p.o + p.m) + p.d * Bl p (n + 1) := by
  unfold To
  rw [Gr_succ]
  show p.s * (Gr p n * (p.o + p.m)) + p.d * (Qu p n * (p.o + p.m) + Bl p (n + 1)) = _
  rw [Nat.mul_add p.d, Nat.add_mul, Nat.mul_assoc p.s, Nat.mul_assoc p.d]; omega
theorem Re_succ {p : Pl} {goal n : Nat} (h : Re p goal n) : Re p goal (n + 1) := by
  unfold Re at h ⊢
  rw [To_succ, Bl_succ, ← Nat.mul_assoc]
  have h1 : goal * Bl p n * p.o ≤ To p n * p.o := Nat.mul_le_mul_right _ h
  have h2 : To p n * p.o ≤ To p n * (p.o + p.m) := Nat.mul_le_mul_left _ (by omega)
  omega
theorem Re_mono {p : Pl} {goal n k : Nat} (h : Re p goal n) (hk : n ≤ k) : Re p goal k := by
  induction hk with
  | refl => exact h
  | step _ ih => exact Re_succ ih
open Classical in
theorem reaches_ok {p : Pl} (h : p.Ok) {goal n : Nat} (hg : goal ≤ 1000000000) (hn : n ≤ 1000) : F_reaches [p.D, .int goal, .int n] η = .ok (.bl (decide (Re p goal n))) η := by
  refine ok_of_wpR1 ?_
  unfold F_reaches b_reaches
  rw [w_runF]
  simp
  refine wpR_of (held_ok h hn) ?_
  simp
  refine ⟨mulOk_l (by omega) (by omega), ?_⟩
  unfold Re
  rw [← Int.natCast_mul]
  omega
/-- none, or the least one -/
def First (p : Pl) (goal : Nat) (d : D) : Prop := (d = .non ∧ ∀ n ≤ 1000, ¬ Re p goal n) ∨ ∃ n : Nat, n ≤ 1000 ∧ d = .int n ∧ Re p goal n ∧ ∀ k < n, ¬ Re p goal k
def Ifr (p : Pl) (goal : Nat) (η : Store) (m : Nat) (ρ : Dn.Env) (η' : Store) : Prop := ∃ (lo hi : Nat) (x4 : Option D), ρ = [some p.D, some (.int goal), some (.int lo), some (.int hi), x4] ∧ lo ≤ hi ∧ hi ≤ 1000 ∧ hi - lo ≤ m ∧ Re p goal hi ∧ (∀ k < lo, ¬ Re p goal k) ∧ η' = η
open Classical in
theorem first_ok {p : Pl} (h : p.Ok) {goal : Nat} (hg : goal ≤ 1000000000) : ∃ d, F_first_reach [p.D, .int goal] η = .ok d η ∧ First p goal d := by
  refine (fun q : wpR (F_first_reach [p.D, .int goal] η) (fun d η' => First p goal d ∧ η' = η) (fun _ _ => False) => ?_) ?_
  · obtain ⟨d, η', e, f, rfl⟩ := ok_of_wpR q
    exact ⟨d, e, f⟩
  unfold F_first_reach b_first_reach
  rw [w_runF]
  simp
  refine wpR_of (reaches_ok h hg (n := 1000) (by omega)) ?_
  by_cases hr : Re p goal 1000
  · simp [hr]
    refine w_whl (Ifr p goal η) ?_ 1000 fuel ⟨0, 1000, _, rfl, by omega, by omega, by omega, hr, fun k hk => by omega, rfl⟩ (fuel_lt (n := 10) (by decide) (by decide))
    rintro m ρ η2 ⟨lo, hi, x4, rfl, h1, h2, h3, h4, h5, rfl⟩
    simp
    by_cases hl : lo < hi
    · rw [if_pos hl]
      refine ⟨m - 1, by omega, ?_⟩
      unfold b_first_reach_1
      simp
      have em : ((lo : Int) + hi) / 2 = (((lo + hi) / 2 : Nat) : Int) := by omega
      rw [em]
      refine wpR_of (reaches_ok h hg (n := (lo + hi) / 2) (by omega)) ?_
      by_cases hq : Re p goal ((lo + hi) / 2)
      · simp [hq]
        exact ⟨lo, (lo + hi) / 2, some (.int (((lo : Int) + hi) / 2)), by simp, by omega, by omega, by omega, hq, h5, rfl⟩
      · simp [hq]
        exact ⟨(lo + hi) / 2 + 1, hi, some (.int (((lo : Int) + hi) / 2)), by simp, by omega, h2, by omega, h4, fun k hk hk2 => hq (Re_mono hk2 (by omega)), rfl⟩
    · rw [if_neg hl]
      have : lo = hi := by omega
      subst this
      exact .inr ⟨lo, h2, rfl, h4, h5⟩
  · simp [hr]
    exact .inl ⟨rfl, fun n hn hq => hr (Re_mono hq hn)⟩
theorem periods_ok {p : Pl} (h : p.Ok) {goal : Nat} (h0 : 1 ≤ goal) (hg : goal ≤ 1000000000) : ∃ d, F_periods_to [p.D, .int goal] η = .ok d η ∧ First p goal d := by
  obtain ⟨d, e, f⟩ := first_ok (η := η) h hg
  refine ⟨d, ok_of_wpR1 ?_, f⟩
  unfold F_periods_to b_periods_to
  rw [w_runF]
  simp
  exact wpR_of (needplan_ok h) (wpR_of (neednum_ok (by omega) (by omega)) (wpR_of e ⟨rfl, rfl⟩))
theorem times_ok {p : Pl} (h : p.Ok) {top below : Nat} (h0 : 1 ≤ below) (h1 : below ≤ top) (h2 : top ≤ 1000) : ∃ d, F_times_to [p.D, .int top, .int below] η = .ok d η ∧ First ⟨below, 0, p.m, p.o⟩ top d := by
  have h' : Pl.Ok ⟨below, 0, p.m, p.o⟩ := ⟨show below ≤ 1000000 by omega, show 0 ≤ 1000000 by omega, h.o1, h.o2, h.m⟩
  obtain ⟨d, e, f⟩ := first_ok (η := η) h' (goal := top) (by omega)
  refine ⟨d, ok_of_wpR1 ?_, f⟩
  unfold F_times_to b_times_to
  rw [w_runF]
  simp
  refine wpR_of (needplan_ok h) (wpR_of (neednum_ok (by omega) (by omega)) (wpR_of (neednum_ok (by omega) (by omega)) ?_))
  have a2 : atI [D.int p.s, .int p.d, .int p.m, .int p.o] 3 = some (.int p.o) := rfl
  simp [Pl.D, a2]
  exact wpR_of e ⟨rfl, rfl⟩
/-! ### the least deposit, the least start -/
def ceilI (x y : Int) : Int := if -(-x / y) > 0 then -(-x / y) else 0
theorem ceil_ok {x y : Int} (h : divOk y) : F_ceiling [.int x, .int y] η = .ok (.int (ceilI x y)) η := by
  refine ok_of_wpR1 ?_
  unfold F_ceiling b_ceiling
  rw [w_runF]
  simp [h, ceilI]
theorem leastd_ok {p : Pl} (h : p.Ok) {goal n : Nat} (h0 : 1 ≤ goal) (hg : goal ≤ 1000000000) (h1 : 1 ≤ n) (hn : n ≤ 300) : F_least_deposit [p.D, .int goal, .int n] η = .ok (.int (ceilI ((goal * Bl p n : Nat) - (p.s * Gr p n : Nat)) (Qu p n))) η := by
  refine ok_of_wpR1 ?_
  unfold F_least_deposit b_least_deposit
  rw [w_runF]
  simp
  refine wpR_of (needplan_ok h) (wpR_of (neednum_ok (by omega) (by omega)) (wpR_of (neednum_ok (by omega) (by omega)) (wpR_of (parts_ok h (by omega)) ?_)))
  have hq : 0 < Qu p n := by
    match n, h1 with
    | n + 1, _ => have := Bl_Qu h n; have := Bl_pos h (n + 1); omega
  have hs := h.s
  have m1 : mulOk (goal : Int) (Bl p n : Nat) := mulOk_l (by omega) (by omega)
  have m2 : mulOk (p.s : Int) (Gr p n : Nat) := mulOk_l (by omega) (by omega)
  simp [Pl.D, m1, m2]
  have := ceil_ok (η := η) (x := (goal : Int) * Bl p n - p.s * Gr p n) (div_big (k := 0) hq (Qu_lt h hn))
  exact wpR_of this ⟨by simp, rfl⟩
theorem leasts_ok {p : Pl} (h : p.Ok) {goal n : Nat} (h0 : 1 ≤ goal) (hg : goal ≤ 1000000000) (h1 : 1 ≤ n) (hn : n ≤ 300) : F_least_start [p.D, .int goal, .int n] η = .ok (.int (ceilI ((goal * Bl p n : Nat) - (p.d * Qu p n : Nat)) (Gr p n))) η := by
  refine ok_of_wpR1 ?_
  unfold F_least_start b_least_start
  rw [w_runF]
  simp
  refine wpR_of (needplan_ok h) (wpR_of (neednum_ok (by omega) (by omega)) (wpR_of (neednum_ok (by omega) (by omega)) (wpR_of (parts_ok h (by omega)) ?_)))
  have hs := h.d
  have m1 : mulOk (goal : Int) (Bl p n : Nat) := mulOk_l (by omega) (by omega)
  have m2 : mulOk (p.d : Int) (Qu p n : Nat) := mulOk_l (by omega) (by omega)
  have hgl : Gr p n < 2 ^ 8999 := Nat.lt_of_lt_of_le (Gr_lt h hn) (Nat.pow_le_pow_right (by decide) (by decide))
  simp [Pl.D, m1, m2]
  have := ceil_ok (η := η) (x := (goal : Int) * Bl p n - p.d * Qu p n) (div_big (k := 0) (Gr_pos h n) hgl)
  exact wpR_of this ⟨by simp, rfl⟩
end K89
namespace K89
open PySem PySem.Spec PyProof.Rows L2 Dn
variable {η : Store}
/-! ### the law's plans and steps -/
theorem lplan_ok {k : Nat} {far o : Int} (c : Cup k η) (f0 : 0 ≤ far) (f1 : far ≤ 1000000) (o0 : 1 ≤ o) (o1 : o ≤ 10000) : ∃ (p : Pl) (η' : Store), F__law_plan [.obj k, .int far, .int o] η = .ok p.D η' ∧ p.Ok ∧ (p.o : Int) ≤ o ∧ Cup k η' := by
  refine (fun q : wpR (F__law_plan [.obj k, .int far, .int o] η) (fun d η' => ∃ p : Pl, d = p.D ∧ p.Ok ∧ (p.o : Int) ≤ o ∧ Cup k η') (fun _ _ => False) => ?_) ?_
  · obtain ⟨d, η', e, p, rfl, h, ho, c⟩ := ok_of_wpR q
    exact ⟨p, η', e, h, ho, c⟩
  unfold F__law_plan b__law_plan
  rw [w_runF]
  simp
  refine roll_ok.wp c (by omega) (by omega) fun r1 η1 h1 h2 c1 _ => ?_
  simp
  refine roll_ok.wp c1 (by omega) (by omega) fun r2 η2 h3 h4 c2 _ => ?_
  refine some_ok.wp c2 (by simp) (by simp) fun x3 η3 hx3 c3 _ => ?_
  have h3' : ∃ z : Int, x3 = .int z ∧ 0 ≤ z := by
    simp at hx3
    rcases hx3 with rfl | rfl | rfl
    · exact ⟨_, rfl, by omega⟩
    · exact ⟨_, rfl, by omega⟩
    · exact ⟨_, rfl, by omega⟩
  obtain ⟨z, rfl, hz⟩ := h3'
  refine roll_ok.wp c3 (by omega) (by omega) fun r4 η4 h5 h6 c4 _ => ?_
  refine some_ok.wp c4 (by simp) (by simp) fun x5 η5 hx5 c5 _ => ?_
  have h5' : ∃ z : Int, x5 = .int z ∧ 0 ≤ z ∧ z ≤ 1000000 := by
    simp at hx5
    rcases hx5 with rfl | rfl
    · exact ⟨_, rfl, by omega, by omega⟩
    · exact ⟨_, rfl, by omega, by omega⟩
  obtain ⟨s, rfl, hs0, hs1⟩ := h5'
  refine roll_ok.wp c5 (by omega) (by omega) fun r6 η6 h7 h8 c6 _ => ?_
  refine some_ok.wp c6 (by simp) (by simp) fun x7 η7 hx7 c7 _ => ?_
  have h7' : ∃ z : Int, x7 = .int z ∧ 0 ≤ z ∧ z ≤ 1000000 := by
    simp at hx7
    rcases hx7 with rfl | rfl
    · exact ⟨_, rfl, by omega, by omega⟩
    · exact ⟨_, rfl, by omega, by omega⟩
  obtain ⟨d, rfl, hd0, hd1⟩ := h7'
  simp
  refine ⟨⟨s.toNat, d.toNat, (if 1 + r1 < z then 1 + r1 else z).toNat, (1 + r1).toNat⟩, ?_, ⟨?_, ?_, ?_, ?_, ?_⟩, ?_, c7⟩
  · unfold Pl.D
    have e1 : ((s.toNat : Nat) : Int) = s := Int.toNat_of_nonneg hs0
    have e2 : ((d.toNat : Nat) : Int) = d := Int.toNat_of_nonneg hd0
    have e3 : (((if 1 + r1 < z then 1 + r1 else z).toNat : Nat) : Int) = if 1 + r1 < z then 1 + r1 else z := Int.toNat_of_nonneg (by split <;> omega)
    have e4 : (((1 + r1).toNat : Nat) : Int) = 1 + r1 := Int.toNat_of_nonneg (by omega)
    rw [e1, e2, e3, e4]
  · show s.toNat ≤ 1000000; omega
  · show d.toNat ≤ 1000000; omega
  · show 1 ≤ (1 + r1).toNat; omega
  · show (1 + r1).toNat ≤ 10000; omega
  · show (if 1 + r1 < z then 1 + r1 else z).toNat ≤ (1 + r1).toNat; split <;> omega
  · show (((1 + r1).toNat : Nat) : Int) ≤ o; omega
/-- exact balances of any start and deposit -/
def ToI (p : Pl) (s d : Int) (n : Nat) : Int := s * Gr p n + d * Qu p n
theorem ToI_succ (p : Pl) (s d : Int) (n : Nat) : ToI p s d (n + 1) = ToI p s d n * ((p.o : Int) + p.m) + d * Bl p n * p.o := by
  unfold ToI
  rw [Gr_succ]
  show s * ((Gr p n * (p.o + p.m) : Nat) : Int) + d * ((Qu p n * (p.o + p.m) + Bl p n * p.o : Nat) : Int) = _
  simp only [Int.natCast_mul, Int.natCast_add]
  rw [Int.mul_add d, Int.add_mul (s * (Gr p n : Int)), Int.mul_assoc s, Int.mul_assoc d (Qu p n : Int), Int.mul_assoc d (Bl p n : Int)]
  omega
theorem ToI_nat (p : Pl) (n : Nat) : ToI p p.s p.d n = (To p n : Int) := by unfold ToI To; simp
def row (p : Pl) (s d : Int) (i : Nat) : D := .tup [.int (ToI p s d i), .int (Bl p i)]
def rows (p : Pl) (s d : Int) (n : Nat) : List D := (List.range (n + 1)).map (row p s d)
theorem rows_succ (p : Pl) (s d : Int) (n : Nat) : rows p s d (n + 1) = rows p s d n ++ [row p s d (n + 1)] := by
  unfold rows; rw [List.range_succ (n := n + 1), List.map_append]; rfl
theorem rows_last (p : Pl) (s d : Int) (n : Nat) : atI (rows p s d n) (-1) = some (row p s d n) := by
  unfold rows; rw [List.range_succ, List.map_append]; exact atI_snoc
theorem rows_at (p : Pl) (s d : Int) {n i : Nat} (h : i ≤ n) : atI (rows p s d n) (i : Int) = some (row p s d i) := by
  have : i < (rows p s d n).length := by unfold rows; simp; omega
  rw [atI_nat this]
  congr 1
  simp only [rows, List.getElem_map, List.getElem_range]
theorem rows_len (p : Pl) (s d : Int) (n : Nat) : (rows p s d n).length = n + 1 := by unfold rows; simp
theorem rows_low {m : Nat} (p : Pl) (s d : Int) (n : Nat) : D.lows m (rows p s d n) = true := by
  unfold rows
  generalize List.range (n + 1) = l
  induction l with
  | nil => rfl
  | cons x l ih => simpa [D.lows, D.low, row] using ih
def planD (p : Pl) (s d : Int) : D := .tup [.int s, .int d, .int p.m, .int p.o]
def Ist (p : Pl) (s d : Int) (n : Nat) (η : Store) (i : Nat) (ρ : Dn.Env) (η' : Store) : Prop := ∃ x7 x8 x9 : Option D, ρ = [some (planD p s d), some (.int n), some (.int s), some (.int d), some (.int p.m), some (.int p.o), some (.obj η.length), x7, x8, x9] ∧ η' = η ++ [.lst (rows p s d i)]
theorem lsteps_ok {p : Pl} (h : p.Ok) {s d : Int} (d0 : -1000000000 < d) (d1 : d < 1000000000) {n : Nat} (hn : n ≤ 1000) : F__law_steps [planD p s d, .int n] η = .ok (.lst (rows p s d n)) η := by
  have h1 := h.o1
  have h2 := h.o2
  have h3 := h.m
  refine trim_lst (l := []) (ok_of_wpR1 ?_) (rows_low p s d n)
  unfold b__law_steps
  rw [w_runF]
  simp [w_for, planD]
  refine ⟨⟨by omega, by omega⟩, ?_⟩
  refine w_forL (Ist p s d n η) _ 0 ⟨_, _, _, rfl, ?_⟩ ?_ ?_
  · simp [rows, row, ToI, Gr, Qu, Bl, List.range_succ]
  · rintro j x hx ρ η2 ⟨x7, x8, x9, rfl, rfl⟩
    rw [Nat.zero_add]
    have hj : j < 1001 := by
      have := (List.getElem?_eq_some_iff.mp hx).1
      rw [rng_length] at this; omega
    have hk : (η ++ [O.lst (rows p s d j)])[η.length]? = some (.lst (rows p s d j)) := by simp
    have hsz : (rows p s d j).length < sizeLine := by rw [rows_len]; exact Nat.lt_of_lt_of_le (show j + 1 < 2000 by omega) (by decide)
    have m1 : ∀ z : Int, mulOk z ((p.o : Int) + p.m) := fun z => mulOk_r (by omega) (by omega)
    have m2 : ∀ z : Int, mulOk d z := fun z => mulOk_l (by omega) (by omega)
    have m3 : ∀ z : Int, mulOk z (p.o : Int) := fun z => mulOk_r (by omega) (by omega)
    unfold b__law_steps_1
    simp [ixD_obj hk, rows_last, row, tyM_obj hk, m1, m2, m3, appD_obj hk hsz]
    refine ⟨_, _, _, rfl, ?_⟩
    rw [rows_succ]
    simp [row, ToI_succ, Bl_succ]
  · rintro ρ η2 ⟨x7, x8, x9, rfl, rfl⟩
    simp [rng_length]
/-! ### balances -/
theorem wh_le {p : Pl} (h : p.Ok) : ∀ n, Wh p n * Bl p n ≤ To p n
  | 0 => by simp [Wh, Bl, To, Gr, Qu]
  | n + 1 => by
    have ih := wh_le h n
    rw [To_succ, Bl_succ]
    show (Wh p n + Wh p n * p.m / p.o + p.d) * (Bl p n * p.o) ≤ _
    have h1 : Wh p n * p.m / p.o * p.o ≤ Wh p n * p.m := Nat.div_mul_le_self _ _
    have h2 : (Wh p n + Wh p n * p.m / p.o) * (Bl p n * p.o) ≤ To p n * (p.o + p.m) := by
      have e : (Wh p n + Wh p n * p.m / p.o) * (Bl p n * p.o) = Bl p n * (Wh p n * p.o + Wh p n * p.m / p.o * p.o) := by
        rw [← Nat.add_mul, Nat.mul_comm (Bl p n) p.o, ← Nat.mul_assoc, Nat.mul_comm _ (Bl p n)]
      rw [e]
      refine Nat.le_trans (Nat.mul_le_mul_left (Bl p n) (Nat.add_le_add_left h1 _)) ?_
      rw [← Nat.mul_add, ← Nat.mul_assoc, Nat.mul_comm (Bl p n)]
      exact Nat.mul_le_mul_right _ ih
    rw [Nat.add_mul (Wh p n + Wh p n * p.m / p.o)]
    exact Nat.add_le_add_right h2 _
/-- what rounding has taken is less than a deposit of 1 has brought -/
theorem err_le {p : Pl} (h : p.Ok) : ∀ n, To p n ≤ Wh p n * Bl p n + Qu p n ∧ (1 ≤ n → To p n < Wh p n * Bl p n + Qu p n)
  | 0 => by simp [Wh, Bl, To, Gr, Qu]
  | n + 1 => by
    have ih := (err_le h n).1
    have ho := h.o1
    have key : To p (n + 1) + Bl p n ≤ Wh p (n + 1) * Bl p (n + 1) + Qu p (n + 1) := by
      rw [To_succ, Bl_succ]
      show To p n * (p.o + p.m) + p.d * (Bl p n * p.o) + Bl p n ≤ (Wh p n + Wh p n * p.m / p.o + p.d) * (Bl p n * p.o) + (Qu p n * (p.o + p.m) + Bl p n * p.o)
      have h1 : To p n * (p.o + p.m) ≤ (Wh p n * Bl p n + Qu p n) * (p.o + p.m) := Nat.mul_le_mul_right _ ih
      have hr : Wh p n * p.m + 1 ≤ Wh p n * p.m / p.o * p.o + p.o := by
        have := Nat.div_add_mod (Wh p n * p.m) p.o
        have h2 := Nat.mod_lt (Wh p n * p.m) (show 0 < p.o by omega)
        rw [Nat.mul_comm] at this
        omega
      have h3 : Bl p n * (Wh p n * p.m + 1) ≤ Bl p n * (Wh p n * p.m / p.o * p.o + p.o) := Nat.mul_le_mul_left _ hr
      have e1 : (Wh p n * Bl p n + Qu p n) * (p.o + p.m) = Wh p n * Bl p n * p.o + Bl p n * (Wh p n * p.m) + Qu p n * (p.o + p.m) := by
        rw [Nat.add_mul, Nat.mul_add (Wh p n * Bl p n)]
        have : Wh p n * Bl p n * p.m = Bl p n * (Wh p n * p.m) := by rw [Nat.mul_comm (Wh p n), Nat.mul_assoc]
        rw [this]
      have e2 : (Wh p n + Wh p n * p.m / p.o + p.d) * (Bl p n * p.o) = Wh p n * Bl p n * p.o + Bl p n * (Wh p n * p.m / p.o * p.o) + p.d * (Bl p n * p.o) := by
        rw [Nat.add_mul, Nat.add_mul]
        have a1 : Wh p n * (Bl p n * p.o) = Wh p n * Bl p n * p.o := by rw [Nat.mul_assoc]
        have a2 : Wh p n * p.m / p.o * (Bl p n * p.o) = Bl p n * (Wh p n * p.m / p.o * p.o) := by rw [← Nat.mul_assoc, Nat.mul_comm _ (Bl p n), Nat.mul_assoc]
        rw [a1, a2]
      rw [e1] at h1
      rw [e2]
      rw [Nat.mul_add, Nat.mul_add] at h3
      omega
    have hb := Bl_pos h n
    exact ⟨by omega, fun _ => by omega⟩
theorem To_lt {p : Pl} (h : p.Ok) {n : Nat} (hn : n ≤ 300) : To p n < 2 ^ 9100 := by
  unfold To
  have h1 := Nat.mul_le_mul h.s (Nat.le_of_lt (Nat.lt_of_lt_of_le (Gr_lt h hn) (Nat.pow_le_pow_right (n := 2) (by decide) (show 8900 ≤ 8999 by decide))))
  have h2 := Nat.mul_le_mul h.d (Nat.le_of_lt (Qu_lt h hn))
  have h3 : (1000000 : Nat) * 2 ^ 8999 ≤ 2 ^ 20 * 2 ^ 8999 := Nat.mul_le_mul_right _ (by decide)
  rw [← Nat.pow_add] at h3
  have h4 : (2 : Nat) ^ (20 + 8999) + 2 ^ (20 + 8999) < 2 ^ 9100 := by
    rw [← Nat.two_mul, ← Nat.pow_succ']
    exact Nat.pow_lt_pow_right (by decide) (by decide)
  omega
def Ibr (k : Nat) (p : Pl) (n : Nat) (rs : List D) (η : Store) (i : Nat) (ρ : Dn.Env) (η' : Store) : Prop := ∃ x7 x8 x9 : Option D, ρ = [some (.obj k), some p.D, some (.int n), some (.lst rs), some (.int (To p n)), some (.int (Bl p n)), some (.int (Wh p i)), x7, x8, x9] ∧ η' = η
theorem balr_ok {k : Nat} (c : Cup k η) : ∃ η', F__law_balances_right [.obj k] η = .ok (.bl true) η' ∧ Cup k η' := by
  refine (fun q : wpR (F__law_balances_right [.obj k] η) (fun d η' => d = .bl true ∧ Cup k η') (fun _ _ => False) => ?_) ?_
  · obtain ⟨d, η', e, rfl, c⟩ := ok_of_wpR q
    exact ⟨η', e, c⟩
  unfold F__law_balances_right b__law_balances_right
  rw [w_runF]
  simp
  refine some_ok.wp c (by simp) (by simp) fun x1 η1 hx1 c1 _ => ?_
  have h1' : ∃ z : Int, x1 = .int z ∧ 0 ≤ z ∧ z ≤ 1000000 := by
    simp at hx1
    rcases hx1 with rfl | rfl | rfl
    · exact ⟨_, rfl, by omega, by omega⟩
    · exact ⟨_, rfl, by omega, by omega⟩
    · exact ⟨_, rfl, by omega, by omega⟩
  obtain ⟨far, rfl, f0, f1⟩ := h1'
  refine some_ok.wp c1 (by simp) (by simp) fun x2 η2 hx2 c2 _ => ?_
  have h2' : ∃ z : Int, x2 = .int z ∧ 1 ≤ z ∧ z ≤ 10000 := by
    simp at hx2
    rcases hx2 with rfl | rfl | rfl
    · exact ⟨_, rfl, by omega, by omega⟩
    · exact ⟨_, rfl, by omega, by omega⟩
    · exact ⟨_, rfl, by omega, by omega⟩
  obtain ⟨o, rfl, o0, o1⟩ := h2'
  obtain ⟨p, η3, ep, h, _, c3⟩ := lplan_ok c2 f0 f1 o0 o1
  refine wpR_of ep ?_
  refine roll_ok.wp c3 (by omega) (by omega) fun r η4 hr0 hr1 c4 _ => ?_
  obtain ⟨n, rfl⟩ : ∃ n : Nat, r = n := ⟨r.toNat, (Int.toNat_of_nonneg hr0).symm⟩
  have hn : n ≤ 30 := by omega
  have hs := h.s
  have hd := h.d
  have ho1 := h.o1
  have ho2 := h.o2
  have hm := h.m
  have el : F__law_steps [p.D, .int n] η4 = .ok (.lst (rows p p.s p.d n)) η4 := lsteps_ok h (by omega) (by omega) (by omega)
  have el2 : ∀ η : Store, F__law_steps [.tup [.int 0, .int 1, .int p.m, .int p.o], .int n] η = .ok (.lst (rows p 0 1 n)) η := fun η => lsteps_ok h (by omega) (by omega) (by omega)
  rw [el]
  rw [wpR_ok]
  simp [rows_last, row, ToI_nat]
  refine wpR_of (isplan_ok h) ?_
  simp
  refine wpR_of (balance_ok h (by omega)) ?_
  refine wpR_of (llowest_ok (Bl_pos h n) (Bl_lt h (by omega))) ?_
  refine wpR_of (same_ok 3 (lowD (To p n) (Bl p n)) _ (by simp [D.sm, lowD])) ?_
  simp [w_for, Pl.D]
  refine ⟨⟨by omega, by omega⟩, ?_⟩
  refine w_forL (Ibr k p n (rows p p.s p.d n) η4) _ 0 ⟨_, _, _, rfl, rfl⟩ ?_ ?_
  · rintro j x hx ρ η5 ⟨x7, x8, x9, rfl, rfl⟩
    rw [Nat.zero_add]
    unfold b__law_balances_right_1
    have a3 : atI [D.int p.s, .int p.d, .int p.m, .int p.o] 3 = some (.int p.o) := rfl
    simp [Pl.D, a3]
    refine ⟨mulOk_r (by omega) (by omega), divOk_lit (by omega) (by omega), some x, x8, x9, ?_, rfl⟩
    rw [whole_step]; rfl
  · rintro ρ η5 ⟨x7, x8, x9, rfl, rfl⟩
    rw [Nat.zero_add, rng_length]
    simp
    refine wpR_of (wholebal_ok h (by omega)) ?_
    refine wpR_of (same_ok 3 _ _ rfl) ?_
    have t1 := wh_le h n
    have g2 : (Wh p n : Int) * Bl p n ≤ To p n := by rw [← Int.natCast_mul]; omega
    have g1 : ¬ ((To p n : Int) < (Wh p n : Int) * Bl p n) := by omega
    have er : n ≠ 0 → (To p n : Int) - (Wh p n : Int) * Bl p n < Qu p n := fun h0 => by
      have := (err_le h n).2 (by omega)
      rw [← Int.natCast_mul]; omega
    have b0 : (0 : Int) < Bl p n := by have := Bl_pos h n; omega
    have a0 : ((To p n : Int) - (Wh p n : Int) * Bl p n).natAbs ≤ To p n := by rw [← Int.natCast_mul]; omega
    have t2 := To_lt h (n := n) (by omega)
    have t3 := Bl_pos h n
    have t4 : Wh p n ≤ To p n := Nat.le_trans (Nat.le_mul_of_pos_right _ t3) t1
    have t5 : Bl p n < 2 ^ 9100 := Nat.lt_trans (Bl_lt h (n := n) (by omega)) (Nat.pow_lt_pow_right (by decide) (by decide))
    have t6 : Qu p n < 2 ^ 9100 := Nat.lt_trans (Qu_lt h (n := n) (by omega)) (Nat.pow_lt_pow_right (by decide) (by decide))
    have m1 : mulOk (Wh p n : Int) (Bl p n) := mulW (k := 9100) (by decide) (by rw [Int.natAbs_natCast]; omega) (by rw [Int.natAbs_natCast]; exact t5)
    have e2 : cutL [D.int p.s, .int p.d, .int p.m, .int p.o] (some 2) none = [D.int p.m, .int p.o] := rfl
    simp [m1, g1, Pl.D, e2]
    rw [el2, wpR_ok]
    simp [rows_last, row]
    have eq1 : ToI p 0 1 n = (Qu p n : Int) := by unfold ToI; omega
    rw [eq1]
    by_cases hn0 : n = 0
    · subst hn0; simp; exact ⟨g2, c4⟩
    · have m2 : mulOk ((To p n : Int) - (Wh p n : Int) * Bl p n) (Bl p n) := mulW (k := 9100) (by decide) (Nat.lt_of_le_of_lt a0 t2) (by rw [Int.natAbs_natCast]; exact t5)
      have m3 : mulOk (Qu p n : Int) (Bl p n) := mulW (k := 9100) (by decide) (by rw [Int.natAbs_natCast]; exact t6) (by rw [Int.natAbs_natCast]; exact t5)
      simp [hn0, m2, m3]
      exact ⟨g2, m1, Int.mul_lt_mul_of_pos_right (er hn0) b0, c4⟩
end K89
namespace K89
open PySem PySem.Spec PyProof.Rows L2 Dn
variable {η : Store}
/-! ### goals -/
theorem neD_nilI {α : Type} (f : α → Int) (l : List α) {η : Store} : neD (.lst (l.map fun x => .int (f x))) (.lst []) η = some (.bl (!l.isEmpty), η) := by
  have h1 : D.pl 60 (D.vw η (.lst (l.map fun x => .int (f x)))) = true := pls_int f l
  rw [neD_pl h1 rfl]
  cases l <;> rfl
theorem neD_bl {a b : Bool} : neD (.bl a) (.bl b) η = some (.bl (!(a == b)), η) := by
  rw [neD_pl (by rfl) (by rfl)]; rfl
theorem filter_first {P : Nat → Bool} {n m : Nat} (h : n < m) (hp : P n = true) (hm : ∀ k < n, ¬ P k = true) : ∃ r, (List.range m).filter P = n :: r := by
  obtain ⟨b, rfl⟩ : ∃ b, m = n + (b + 1) := ⟨m - n - 1, by omega⟩
  rw [List.range_add, List.filter_append, List.range_succ_eq_map, List.map_cons]
  have e : (List.range n).filter P = [] := List.filter_eq_nil_iff.mpr fun k hk => hm k (List.mem_range.mp hk)
  rw [e, List.nil_append, List.filter_cons_of_pos (by simpa using hp)]
  exact ⟨_, rfl⟩
theorem ceil_nn (x y : Int) : 0 ≤ ceilI x y := by unfold ceilI; split <;> omega
theorem ceil_up {x y : Int} (h : 0 < y) : x ≤ ceilI x y * y := by
  have h1 := Int.ediv_mul_le (-x) (show y ≠ 0 by omega)
  unfold ceilI
  split
  · rw [Int.neg_mul]; omega
  · rename_i hn
    have h2 : 0 ≤ (-x / y) * y := Int.mul_nonneg (by omega) (by omega)
    omega
theorem ceil_lo {x y : Int} (h : 0 < y) (hc : 1 ≤ ceilI x y) : (ceilI x y - 1) * y < x := by
  have h1 := Int.lt_ediv_add_one_mul_self (-x) h
  unfold ceilI at hc ⊢
  split at hc
  · rename_i hp
    rw [if_pos hp]
    have e : (-(-x / y) - 1) * y = -((-x / y + 1) * y) := by rw [← Int.neg_mul]; congr 1; omega
    rw [e]; omega
  · omega
/-- the wish of a least value: enough at it, not one below -/
structure Fair (top : Int → Int) (need least : Int) : Prop where
  nn : 0 ≤ least
  up : need ≤ top least
  lo : 1 ≤ least → top (least - 1) < need
theorem fair_of {top : Int → Int} {need x y : Int} (h : 0 < y) (ht : ∀ own, top own - need = own * y - x) : Fair top need (ceilI x y) := by
  refine ⟨ceil_nn _ _, ?_, fun hc => ?_⟩
  · have := ceil_up (x := x) h
    have := ht (ceilI x y)
    omega
  · have := ceil_lo h hc
    have := ht (ceilI x y - 1)
    omega
def Igo (x0 x4 x5 x6 x7 : Option D) (p : Pl) (goal n : Nat) (at_ least : Int) (η : Store) (i : Nat) (ρ : Dn.Env) (η' : Store) : Prop :=
  ∃ y10 y11 y12 y13, ρ = [x0, some p.D, some (.int goal), some (.int n), x4, x5, x6, x7, some (.int at_), some (.int least), y10, y11, y12, y13] ∧ η' = η
theorem body1_1 {p : Pl} (h : p.Ok) {goal n : Nat} (hg : goal ≤ 100000) (hn : n ≤ 300) {own least : Int} (hf : Fair (fun o => ToI p p.s o n) (goal * Bl p n) least) (hl : least ≤ 100000) (ho : own = least ∨ own = least - 1)
    {x0 x4 x5 x6 x7 x11 x12 x13 : Option D} :
    wpS (b__law_goals_right_1 [x0, some p.D, some (.int goal), some (.int n), x4, x5, x6, x7, some (.int 1), some (.int least), some (.int own), x11, x12, x13] η) ⟨Igo x0 x4 x5 x6 x7 p goal n 1 least η 0, fun _ _ => False, fun _ _ => False, fun _ _ => False, fun _ _ _ => False⟩ := by
  have hnn := hf.nn
  have e1 : cutL [D.int p.s, .int p.d, .int p.m, .int p.o] none (some 1) = [D.int p.s] := rfl
  have e2 : cutL [D.int p.s, .int p.d, .int p.m, .int p.o] (some 2) none = [D.int p.m, .int p.o] := rfl
  have el : ∀ η : Store, F__law_steps [.tup [.int p.s, .int own, .int p.m, .int p.o], .int n] η = .ok (.lst (rows p p.s own n)) η := fun η => lsteps_ok h (by omega) (by omega) (by omega)
  have m1 : mulOk (goal : Int) (Bl p n) := mulOk_l (by omega) (by omega)
  unfold b__law_goals_right_1
  simp [Pl.D, e1, e2]
  rw [el, wpR_ok]
  simp [rows_last, row, m1, neD_bl]
  have key : 0 ≤ own → (decide ((goal : Int) * Bl p n ≤ ToI p p.s own n) == decide (own = least)) = true := by
    intro h0
    rcases ho with rfl | rfl
    · have := hf.up
      simp
      exact this
    · have := hf.lo (by omega)
      simp
      exact ⟨fun q => absurd this (Int.not_lt.mpr q), fun q => by omega⟩
  by_cases h0 : 0 ≤ own
  · simp [h0]
    have k := key h0
    simp at k
    by_cases hd : own = least
    · simp [hd] at k ⊢
      simp [k]
      exact ⟨_, _, _, _, rfl, rfl⟩
    · simp [hd] at k ⊢
      simp [k]
      exact ⟨_, _, _, _, rfl, rfl⟩
  · simp [h0]
    exact ⟨_, _, _, _, rfl, rfl⟩
theorem body1_0 {p : Pl} (h : p.Ok) {goal n : Nat} (hg : goal ≤ 100000) (hn : n ≤ 300) {own least : Int} (hf : Fair (fun o => ToI p o p.d n) (goal * Bl p n) least) (ho : own = least ∨ own = least - 1)
    {x0 x4 x5 x6 x7 x11 x12 x13 : Option D} :
    wpS (b__law_goals_right_1 [x0, some p.D, some (.int goal), some (.int n), x4, x5, x6, x7, some (.int 0), some (.int least), some (.int own), x11, x12, x13] η) ⟨Igo x0 x4 x5 x6 x7 p goal n 0 least η 0, fun _ _ => False, fun _ _ => False, fun _ _ => False, fun _ _ _ => False⟩ := by
  have hnn := hf.nn
  have e1 : cutL [D.int p.s, .int p.d, .int p.m, .int p.o] none (some 0) = [] := rfl
  have e2 : cutL [D.int p.s, .int p.d, .int p.m, .int p.o] (some 1) none = [D.int p.d, .int p.m, .int p.o] := rfl
  have el : ∀ η : Store, F__law_steps [.tup [.int own, .int p.d, .int p.m, .int p.o], .int n] η = .ok (.lst (rows p own p.d n)) η := fun η => lsteps_ok h (by have := h.d; omega) (by have := h.d; omega) (by omega)
  have m1 : mulOk (goal : Int) (Bl p n) := mulOk_l (by omega) (by omega)
  unfold b__law_goals_right_1
  simp [Pl.D, e1, e2]
  rw [el, wpR_ok]
  simp [rows_last, row, m1, neD_bl]
  have key : 0 ≤ own → (decide ((goal : Int) * Bl p n ≤ ToI p own p.d n) == decide (own = least)) = true := by
    intro h0
    rcases ho with rfl | rfl
    · have := hf.up
      simp
      exact this
    · have := hf.lo (by omega)
      simp
      exact ⟨fun q => absurd this (Int.not_lt.mpr q), fun q => by omega⟩
  by_cases h0 : 0 ≤ own
  · simp [h0]
    have k := key h0
    simp at k
    by_cases hd : own = least
    · simp [hd] at k ⊢
      simp [k]
      exact ⟨_, _, _, _, rfl, rfl⟩
    · simp [hd] at k ⊢
      simp [k]
      exact ⟨_, _, _, _, rfl, rfl⟩
  · simp [h0]
    exact ⟨_, _, _, _, rfl, rfl⟩
theorem body2_ok {p : Pl} (h : p.Ok) {goal n : Nat} (hg : goal ≤ 100000) (hn : n ≤ 300) {at_ least : Int}
    (hf : (at_ = 1 ∧ Fair (fun o => ToI p p.s o n) (goal * Bl p n) least ∧ least ≤ 100000) ∨ (at_ = 0 ∧ Fair (fun o => ToI p o p.d n) (goal * Bl p n) least))
    {x0 x4 x5 x6 x7 x10 x11 x12 x13 : Option D} {P : Po}
    (hq : ∀ y10 y11 y12 y13, P.nx [x0, some p.D, some (.int goal), some (.int n), x4, x5, x6, x7, some (.int at_), some (.int least), y10, y11, y12, y13] η) :
    wpS (b__law_goals_right_2 [x0, some p.D, some (.int goal), some (.int n), x4, x5, x6, x7, some (.int at_), some (.int least), x10, x11, x12, x13] η) P := by
  have h0 : 0 ≤ least := hf.elim (fun q => q.2.1.nn) fun q => q.2.nn
  have h0' : ¬ least < 0 := by omega
  unfold b__law_goals_right_2
  simp [h0', w_for]
  refine w_forL (Igo x0 x4 x5 x6 x7 p goal n at_ least η) _ 0 ⟨_, _, _, _, rfl, rfl⟩ ?_ ?_
  · rintro j x hx ρ η2 ⟨y10, y11, y12, y13, rfl, rfl⟩
    have hx' : ∃ own, x = .int own ∧ (own = least ∨ own = least - 1) := by
      have := List.mem_of_getElem? hx
      simp at this
      rcases this with rfl | rfl
      · exact ⟨_, rfl, .inl rfl⟩
      · exact ⟨_, rfl, .inr rfl⟩
    obtain ⟨own, rfl, ho⟩ := hx'
    simp only [b_bN, wpO_some, List.set_cons_succ, List.set_cons_zero]
    rcases hf with hf | hf
    · have e := hf.1
      subst e
      have q1 := hf.2.1
      have q2 := hf.2.2
      exact wpS_imp (@body1_1 η2 p h goal n hg hn own least q1 q2 ho x0 x4 x5 x6 x7 y11 y12 y13) (fun _ _ z => z) (fun _ _ z => z.elim) (fun _ _ z => z.elim) (fun _ _ z => z.elim) (fun _ _ _ z => z.elim)
    · have e := hf.1
      subst e
      have q1 := hf.2
      exact wpS_imp (@body1_0 η2 p h goal n hg hn own least q1 ho x0 x4 x5 x6 x7 y11 y12 y13) (fun _ _ z => z) (fun _ _ z => z.elim) (fun _ _ z => z.elim) (fun _ _ z => z.elim) (fun _ _ _ z => z.elim)
  · rintro ρ η2 ⟨y10, y11, y12, y13, rfl, rfl⟩
    exact hq _ _ _ _
instance (p : Pl) (goal n : Nat) : Decidable (Re p goal n) := by unfold Re; infer_instance
/-- the good periods -/
def goods (p : Pl) (goal m : Nat) : List Nat := (List.range m).filter fun i => decide (Re p goal i)
theorem goods_none {p : Pl} {goal m : Nat} (h : ∀ n < m, ¬ Re p goal n) : goods p goal m = [] := List.filter_eq_nil_iff.mpr fun k hk => by
  have := h k (List.mem_range.mp hk)
  simpa using this
theorem goods_some {p : Pl} {goal m n : Nat} (hm : n < m) (h : Re p goal n) (hl : ∀ k < n, ¬ Re p goal k) : ∃ r, goods p goal m = n :: r :=
  filter_first hm (by simpa using h) fun k hk => by simpa using hl k hk
theorem goods_len (p : Pl) (goal m : Nat) : (goods p goal m).length ≤ m := Nat.le_trans (List.length_filter_le _ _) (by simp)
theorem re_int (p : Pl) (goal i : Nat) : ((goal : Int) * Bl p i ≤ ToI p p.s p.d i) ↔ Re p goal i := by
  rw [ToI_nat]
  unfold Re
  rw [← Int.natCast_mul]
  omega
end K89
namespace K89
open PySem PySem.Spec PyProof.Rows L2 Dn
variable {η : Store}
theorem big61 : big62 61 := ⟨by decide, by decide⟩
theorem big81 : big62 81 := ⟨by decide, by decide⟩
theorem goalr_ok {k : Nat} (c : Cup k η) : ∃ η', F__law_goals_right [.obj k] η = .ok (.bl true) η' ∧ Cup k η' := by
  refine (fun q : wpR (F__law_goals_right [.obj k] η) (fun d η' => d = .bl true ∧ Cup k η') (fun _ _ => False) => ?_) ?_
  · obtain ⟨d, η', e, rfl, c⟩ := ok_of_wpR q
    exact ⟨η', e, c⟩
  unfold F__law_goals_right b__law_goals_right
  rw [w_runF]
  simp
  obtain ⟨p, η1, ep, h, ho12, c1⟩ := lplan_ok c (far := 300) (o := 12) (by decide) (by decide) (by decide) (by decide)
  refine wpR_of ep ?_
  refine roll_ok.wp c1 (by decide) (by decide) fun r2 η2 h1 h2 c2 _ => ?_
  refine roll_ok.wp c2 (by decide) (by decide) fun r3 η3 h3 h4 c3 _ => ?_
  refine some_ok.wp c3 (by simp) (by simp) fun x4 η4 hx4 c4 _ => ?_
  have h4' : ∃ g : Nat, x4 = .int g ∧ g ≤ 9000 := by
    simp at hx4
    rcases hx4 with rfl | rfl
    · exact ⟨r2.toNat, by rw [Int.toNat_of_nonneg h1], by omega⟩
    · exact ⟨r3.toNat, by rw [Int.toNat_of_nonneg h3], by omega⟩
  obtain ⟨g, rfl, hg⟩ := h4'
  have eg : (1 : Int) + (g : Int) = ((1 + g : Nat) : Int) := by omega
  simp only [addD_int, wpO_some, eg]
  refine roll_ok.wp c4 (by decide) (by decide) fun r5 η5 h5 h6 c5 _ => ?_
  obtain ⟨m, rfl⟩ : ∃ m : Nat, r5 = m := ⟨r5.toNat, (Int.toNat_of_nonneg h5).symm⟩
  have en : (1 : Int) + (m : Int) = ((1 + m : Nat) : Int) := by omega
  have hn : 1 + m ≤ 25 := by omega
  have hn1 : 1 ≤ 1 + m := by omega
  have hg1 : 1 ≤ 1 + g := by omega
  have hg2 : 1 + g ≤ 9001 := by omega
  simp only [addD_int, wpO_some, en]
  generalize 1 + g = goal at hg1 hg2
  generalize 1 + m = n at hn hn1
  have hs := h.s
  have hd := h.d
  have el : F__law_steps [p.D, .int 60] η5 = .ok (.lst (rows p p.s p.d 60)) η5 := lsteps_ok (n := 60) h (by omega) (by omega) (by decide)
  obtain ⟨told, et, ft⟩ := periods_ok (η := η5) h hg1 (Nat.le_trans hg2 (by decide))
  rw [el, wpR_ok, et, wpR_ok]
  have hm : ∀ z : Int, mulOk (goal : Int) z := fun z => mulOk_l (by omega) (by omega)
  simp [w_lc, w_nx, cmpS, big61]
  refine wpR_of (cmp_off (fun i : Nat => .int (0 + (i : Int))) (fun i : Nat => .int (i : Int)) (fun i => decide (Re p goal i)) (List.range 61) fun j hj => ⟨_, rfl, ?_, fun _ => ?_⟩) ?_
  · have hj' : j < 61 := List.mem_range.mp hj
    have e := rows_at p p.s p.d (n := 60) (i := j) (by omega)
    refine ok_of_wpR1 ?_
    simp [wipeD, e, row, hm]
    exact re_int p goal j
  · exact ok_of_wpR1 (by simp [wipeD])
  · have hgl := goods_len p goal 61
    rw [List.length_map]
    refine ⟨szle (Nat.le_trans hgl (by decide)), ?_⟩
    have hgd : (List.range 61).filter (fun i => decide (Re p goal i)) = goods p goal 61 := rfl
    rw [hgd]
    rw [neD_nilI (fun i : Nat => (i : Int))]
    simp only [wpO_some, isB_bl]
    generalize hL : sFor fuel _ _ b__law_goals_right_2 = L
    have fin : ∀ (td : D) (G : D), Dn.wpS (L [some (.obj k), some p.D, some (.int goal), some (.int n), some (.lst (rows p p.s p.d 60)), some td, some G, none, none, none, none, none, none, none] η5)
        ⟨fun ρ η => Cup k η, fun d η' => d = .bl true ∧ Cup k η', fun _ _ => False, fun _ _ => False, fun _ _ _ => False⟩ := by
      intro td G
      subst hL
      rw [w_for]
      have e1 := leastd_ok (η := η5) h hg1 (Nat.le_trans hg2 (by decide)) hn1 (Nat.le_trans hn (by decide))
      have e2 := leasts_ok (η := η5) h hg1 (Nat.le_trans hg2 (by decide)) hn1 (Nat.le_trans hn (by decide))
      simp
      rw [e1, wpR_ok, e2, wpR_ok]
      have hq : (0 : Int) < Qu p n := by
        match n, hn1 with
        | n + 1, _ => have := Bl_Qu h n; have := Bl_pos h (n + 1); omega
      have hgr : (0 : Int) < Gr p n := by have := Gr_pos h n; omega
      have f1 : Fair (fun o => ToI p p.s o n) (goal * Bl p n) (ceilI ((goal * Bl p n : Nat) - (p.s * Gr p n : Nat)) (Qu p n)) := fair_of hq fun own => by
        show (p.s : Int) * Gr p n + own * Qu p n - (goal : Int) * Bl p n = _
        simp only [Int.natCast_mul]; omega
      have f0 : Fair (fun o => ToI p o p.d n) (goal * Bl p n) (ceilI ((goal * Bl p n : Nat) - (p.d * Qu p n : Nat)) (Gr p n)) := fair_of hgr fun own => by
        show own * (Gr p n : Int) + (p.d : Int) * Qu p n - (goal : Int) * Bl p n = _
        simp only [Int.natCast_mul]; omega
      have hl1 : ceilI ((goal * Bl p n : Nat) - (p.s * Gr p n : Nat)) (Qu p n) ≤ 100000 := by
        by_cases hc : 1 ≤ ceilI ((goal * Bl p n : Nat) - (p.s * Gr p n : Nat)) (Qu p n)
        · have lo := ceil_lo hq hc
          have hbq : Bl p n ≤ Qu p n := by
            match n, hn1 with
            | n + 1, _ => exact Bl_Qu h n
          have h1 : goal * Bl p n ≤ goal * Qu p n := Nat.mul_le_mul_left _ hbq
          have h2 : (ceilI ((goal * Bl p n : Nat) - (p.s * Gr p n : Nat)) (Qu p n) - 1) * (Qu p n : Int) < (goal : Int) * Qu p n := by
            have : ((goal * Bl p n : Nat) : Int) ≤ ((goal * Qu p n : Nat) : Int) := by exact_mod_cast h1
            rw [← Int.natCast_mul]
            omega
          have := Int.lt_of_mul_lt_mul_right h2 (Int.le_of_lt hq)
          omega
        · omega
      refine w_forL (fun i ρ η' => ∃ x8 x9 x10 x11 x12 x13, ρ = [some (.obj k), some p.D, some (.int goal), some (.int n), some (.lst (rows p p.s p.d 60)), some td, some G, none, x8, x9, x10, x11, x12, x13] ∧ η' = η5) _ 0 ⟨_, _, _, _, _, _, rfl, rfl⟩ ?_ ?_
      · rintro j x hx ρ η2 ⟨x8, x9, x10, x11, x12, x13, rfl, rfl⟩
        have hx' := List.mem_of_getElem? hx
        simp only [List.mem_cons, List.not_mem_nil, or_false] at hx'
        rcases hx' with rfl | rfl
        · simp only [b_bT_tup, b_bTs_cons, b_bN, Option.bind_some, b_bTs_nil, wpO_some, List.set_cons_succ, List.set_cons_zero]
          exact body2_ok h (by omega) (by omega) (.inl ⟨rfl, f1, hl1⟩) fun _ _ _ _ => ⟨_, _, _, _, _, _, rfl, rfl⟩
        · simp only [b_bT_tup, b_bTs_cons, b_bN, Option.bind_some, b_bTs_nil, wpO_some, List.set_cons_succ, List.set_cons_zero]
          exact body2_ok h (by omega) (by omega) (.inr ⟨rfl, f0⟩) fun _ _ _ _ => ⟨_, _, _, _, _, _, rfl, rfl⟩
      · rintro ρ η2 ⟨x8, x9, x10, x11, x12, x13, rfl, rfl⟩
        exact c5
    have hpos : ∀ n', Re p goal n' → ¬ ((p.s : Int) = 0 ∧ (p.d : Int) = 0) := fun n' hr ⟨a, b⟩ => by
      have a' : p.s = 0 := by omega
      have b' : p.d = 0 := by omega
      have : goal * Bl p n' ≤ To p n' := hr
      have e0 : To p n' = 0 := by unfold To; rw [a', b']; simp
      have := Nat.mul_le_mul hg1 (Bl_pos h n')
      omega
    simp only [eqD_nilI (fun i : Nat => (i : Int)), wpO_some, isB_bl]
    rcases ft with ⟨rfl, hno⟩ | ⟨n0, hn0, rfl, hre, hmin⟩
    · have hG : goods p goal 61 = [] := goods_none fun i hi => hno i (by omega)
      rw [hG]
      have f := fin .non (.lst [])
      simp only [Pl.D] at f
      simp [Pl.D]
      exact f
    · have hsd := hpos n0 hre
      by_cases h60 : n0 ≤ 60
      · obtain ⟨r, hG⟩ := goods_some (m := 61) (by omega) hre hmin
        have f := fin (.int n0) (.lst ((goods p goal 61).map fun i : Nat => D.int (i : Int)))
        rw [hG] at f ⊢
        simp only [List.isEmpty_cons, List.map_cons, atI_zero, wpO_some]
        rw [if_pos (by rfl)]
        refine wpR_of (same_ok 3 _ _ rfl) ?_
        simp only [Pl.D, List.map_cons] at f
        simp [Pl.D]
        by_cases h1 : p.s = 0
        · by_cases h2 : p.d = 0
          · exact absurd ⟨by omega, by omega⟩ hsd
          · simp [h1, h2] at f ⊢
            exact f
        · simp [h1] at f ⊢
          exact f
      · have hG : goods p goal 61 = [] := goods_none fun i hi => hmin i (by omega)
        have f := fin (.int n0) (.lst [])
        rw [hG]
        have g1 : (61 : Int) ≤ n0 := by omega
        have g2 : (n0 : Int) ≤ 1000 := by omega
        simp only [Pl.D] at f
        simp [Pl.D, g1, g2]
        by_cases h1 : p.s = 0
        · by_cases h2 : p.d = 0
          · exact absurd ⟨by omega, by omega⟩ hsd
          · simp [h1, h2] at f ⊢
            exact f
        · simp [h1] at f ⊢
          exact f
end K89
namespace K89
open PySem PySem.Spec PyProof.Rows L2 Dn
variable {η : Store}
theorem timer_ok {k : Nat} (c : Cup k η) : ∃ η', F__law_times_right [.obj k] η = .ok (.bl true) η' ∧ Cup k η' := by
  refine (fun q : wpR (F__law_times_right [.obj k] η) (fun d η' => d = .bl true ∧ Cup k η') (fun _ _ => False) => ?_) ?_
  · obtain ⟨d, η', e, rfl, c⟩ := ok_of_wpR q
    exact ⟨η', e, c⟩
  unfold F__law_times_right b__law_times_right
  rw [w_runF]
  simp
  obtain ⟨p, η1, ep, h, ho12, c1⟩ := lplan_ok c (far := 50) (o := 12) (by decide) (by decide) (by decide) (by decide)
  refine wpR_of ep ?_
  refine roll_ok.wp c1 (by decide) (by decide) fun r2 η2 h1 h2 c2 _ => ?_
  refine roll_ok.wp c2 (by decide) (by decide) fun r3 η3 h3 h4 c3 _ => ?_
  refine some_ok.wp c3 (by simp) (by simp) fun x4 η4 hx4 c4 _ => ?_
  have h4' : ∃ g : Nat, x4 = .int g ∧ g ≤ 299 := by
    simp at hx4
    rcases hx4 with rfl | rfl
    · exact ⟨r2.toNat, by rw [Int.toNat_of_nonneg h1], by omega⟩
    · exact ⟨r3.toNat, by rw [Int.toNat_of_nonneg h3], by omega⟩
  obtain ⟨g, rfl, hg⟩ := h4'
  have eg : (1 : Int) + (g : Int) = ((1 + g : Nat) : Int) := by omega
  simp only [addD_int, wpO_some, eg]
  have hb1 : 1 ≤ 1 + g := by omega
  have hb2 : 1 + g ≤ 300 := by omega
  generalize 1 + g = below at hb1 hb2
  refine roll_ok.wp c4 (by decide) (by decide) fun r5 η5 h5 h6 c5 _ => ?_
  refine roll_ok.wp c5 (by decide) (by decide) fun r6 η6 h7 h8 c6 _ => ?_
  refine some_ok.wp c6 (by simp) (by simp) fun x7 η7 hx7 c7 _ => ?_
  have h7' : ∃ g : Nat, x7 = .int g ∧ g ≤ 700 := by
    simp at hx7
    rcases hx7 with rfl | rfl | rfl
    · exact ⟨0, rfl, by omega⟩
    · exact ⟨r5.toNat, by rw [Int.toNat_of_nonneg h5], by omega⟩
    · exact ⟨r6.toNat, by rw [Int.toNat_of_nonneg h7], by omega⟩
  obtain ⟨z, rfl, hz⟩ := h7'
  have et : (if (below : Int) + z < 1000 then (below : Int) + z else 1000) = ((min 1000 (below + z) : Nat) : Int) := by
    have := Nat.min_def (n := 1000) (m := below + z)
    split <;> omega
  simp only [addD_int, wpO_some, min2D_int, et]
  have ht1 : below ≤ min 1000 (below + z) := by omega
  have ht2 : min 1000 (below + z) ≤ 1000 := by omega
  generalize min 1000 (below + z) = top at ht1 ht2
  obtain ⟨told, etd, ft⟩ := times_ok (η := η7) h hb1 ht1 ht2
  rw [etd, wpR_ok]
  have el : F__law_steps [.tup [.int 1, .int 0, .int p.m, .int p.o], .int 80] η7 = .ok (.lst (rows p 1 0 80)) η7 := lsteps_ok (n := 80) h (by omega) (by omega) (by decide)
  have e2 : cutL [D.int p.s, .int p.d, .int p.m, .int p.o] (some 2) none = [D.int p.m, .int p.o] := rfl
  simp [Pl.D, e2]
  rw [el, wpR_ok]
  have hm1 : ∀ z : Int, mulOk z (below : Int) := fun z => mulOk_r (by omega) (by omega)
  have hm2 : ∀ z : Int, mulOk (top : Int) z := fun z => mulOk_l (by omega) (by omega)
  simp [w_lc, w_nx, cmpS, big81]
  have hre : ∀ i, ((top : Int) * Bl p i ≤ ToI p 1 0 i * below) ↔ Re ⟨below, 0, p.m, p.o⟩ top i := fun i => by
    unfold Re To ToI
    show _ ↔ top * Bl p i ≤ below * Gr p i + 0 * Qu ⟨below, 0, p.m, p.o⟩ i
    have e1 : (1 * (Gr p i : Int) + 0 * (Qu p i : Int)) * below = ((below * Gr p i : Nat) : Int) := by
      rw [Int.one_mul, Int.zero_mul, Int.add_zero, Int.mul_comm]; simp
    rw [e1, ← Int.natCast_mul]
    omega
  refine wpR_of (cmp_off (fun i : Nat => .int (0 + (i : Int))) (fun i : Nat => .int (i : Int)) (fun i => decide (Re ⟨below, 0, p.m, p.o⟩ top i)) (List.range 81) fun j hj => ⟨_, rfl, ?_, fun _ => ?_⟩) ?_
  · have hj' : j < 81 := List.mem_range.mp hj
    have e := rows_at p 1 0 (n := 80) (i := j) (by omega)
    refine ok_of_wpR1 ?_
    simp [wipeD, e, row, hm1, hm2]
    exact hre j
  · exact ok_of_wpR1 (by simp [wipeD])
  · have hgl := goods_len ⟨below, 0, p.m, p.o⟩ top 81
    rw [List.length_map]
    refine ⟨szle (Nat.le_trans hgl (by decide)), ?_⟩
    have hgd : (List.range 81).filter (fun i => decide (Re ⟨below, 0, p.m, p.o⟩ top i)) = goods ⟨below, 0, p.m, p.o⟩ top 81 := rfl
    rw [hgd]
    rw [neD_nilI (fun i : Nat => (i : Int))]
    simp only [wpO_some, isB_bl]
    rcases ft with ⟨rfl, hno⟩ | ⟨n0, hn0, rfl, hr, hmin⟩
    · have hG : goods ⟨below, 0, p.m, p.o⟩ top 81 = [] := goods_none fun i hi => hno i (by omega)
      rw [hG]
      simp
      exact c7
    · by_cases h80 : n0 ≤ 80
      · obtain ⟨r, hG⟩ := goods_some (m := 81) (by omega) hr hmin
        rw [hG]
        simp only [List.isEmpty_cons, List.map_cons, atI_zero, wpO_some]
        rw [if_pos (by rfl)]
        exact wpR_of (same_ok 3 _ _ rfl) ⟨rfl, c7⟩
      · have hG : goods ⟨below, 0, p.m, p.o⟩ top 81 = [] := goods_none fun i hi => hmin i (by omega)
        rw [hG]
        have g1 : (81 : Int) ≤ n0 := by omega
        have g2 : (n0 : Int) ≤ 1000 := by omega
        have hm0 : 0 < p.m := by
          refine Nat.pos_of_ne_zero fun hz => ?_
          have hq : ∀ i, Re ⟨below, 0, p.m, p.o⟩ top i ↔ top ≤ below := fun i => by
            unfold Re To
            show top * Bl p i ≤ below * Gr p i + 0 * Qu ⟨below, 0, p.m, p.o⟩ i ↔ _
            have e : Gr p i = Bl p i := by unfold Gr Bl; rw [hz]; rfl
            rw [e, Nat.zero_mul, Nat.add_zero]
            exact ⟨fun q => Nat.le_of_mul_le_mul_right q (Bl_pos h i), fun q => Nat.mul_le_mul_right _ q⟩
          exact hmin 0 (by omega) ((hq 0).mpr ((hq n0).mp hr))
        simp [g1, g2, hm0]
        exact c7
/-! ### late ones -/
theorem first_at {p : Pl} {goal n : Nat} {d : D} (f : First p goal d) (hn : n ≤ 1000) (h : Re p goal n) (hl : ∀ k < n, ¬ Re p goal k) : d = .int n := by
  rcases f with ⟨_, hno⟩ | ⟨m, _, rfl, hr, hm⟩
  · exact absurd h (hno n hn)
  · have h1 : ¬ m < n := fun q => hl m q hr
    have h2 : ¬ n < m := fun q => hm n q h
    have : m = n := by omega
    rw [this]
theorem first_no {p : Pl} {goal : Nat} {d : D} (f : First p goal d) (h : ∀ n ≤ 1000, ¬ Re p goal n) : d = .non := by
  rcases f with ⟨rfl, _⟩ | ⟨m, hm, _, hr, _⟩
  · rfl
  · exact absurd hr (h m hm)
theorem re_plain {d o : Nat} (ho : 1 ≤ o) {goal n : Nat} : Re ⟨0, d, 0, o⟩ goal n ↔ goal ≤ d * n := by
  unfold Re To
  rw [Qu_zero _ rfl]
  show goal * Bl _ n ≤ 0 * Gr _ n + d * (n * Bl _ n) ↔ _
  rw [Nat.zero_mul, Nat.zero_add, ← Nat.mul_assoc]
  have hb : 0 < Bl ⟨0, d, 0, o⟩ n := Nat.one_le_pow _ _ ho
  exact ⟨fun q => Nat.le_of_mul_le_mul_right q hb, fun q => Nat.mul_le_mul_right _ q⟩
theorem re_three {goal n : Nat} : Re ⟨1, 0, 3, 3⟩ goal n ↔ goal ≤ 2 ^ n := by
  unfold Re To Gr Bl
  show goal * 3 ^ n ≤ 1 * (3 + 3) ^ n + 0 * Qu _ n ↔ _
  have e : (6 : Nat) ^ n = 2 ^ n * 3 ^ n := by rw [← Nat.mul_pow]
  rw [Nat.zero_mul, Nat.add_zero, Nat.one_mul, show 3 + 3 = 6 from rfl, e]
  have hb : 0 < 3 ^ n := Nat.pow_pos (by decide)
  exact ⟨fun q => Nat.le_of_mul_le_mul_right q hb, fun q => Nat.mul_le_mul_right _ q⟩
theorem qu_one : ∀ n, Qu ⟨0, 1, 1, 1⟩ n + 1 = 2 ^ n
  | 0 => rfl
  | n + 1 => by
    have ih := qu_one n
    show Qu ⟨0, 1, 1, 1⟩ n * (1 + 1) + 1 ^ (n + 1) + 1 = _
    rw [Nat.one_pow, Nat.pow_succ]; omega
theorem re_one {goal n : Nat} : Re ⟨0, 1, 1, 1⟩ goal n ↔ goal + 1 ≤ 2 ^ n := by
  unfold Re To Bl
  show goal * 1 ^ n ≤ 0 * Gr _ n + 1 * Qu ⟨0, 1, 1, 1⟩ n ↔ _
  have := qu_one n
  rw [Nat.one_pow, Nat.zero_mul, Nat.zero_add]
  omega
theorem wh_one : ∀ n, Wh ⟨0, 1, 1, 1⟩ n + 1 = 2 ^ n
  | 0 => rfl
  | n + 1 => by
    have ih := wh_one n
    show Wh ⟨0, 1, 1, 1⟩ n + Wh ⟨0, 1, 1, 1⟩ n * 1 / 1 + 1 + 1 = _
    rw [Nat.mul_one, Nat.div_one, Nat.pow_succ]; omega
theorem low_seven (n : Nat) : lowD (To ⟨1, 0, 7, 7⟩ n) (Bl ⟨1, 0, 7, 7⟩ n) = .tup [.int ((2 ^ n : Nat) : Int), .int 1] := by
  have e1 : To ⟨1, 0, 7, 7⟩ n = 2 ^ n * 7 ^ n := by
    unfold To Gr
    show 1 * (7 + 7) ^ n + 0 * Qu _ n = _
    rw [Nat.zero_mul, Nat.add_zero, Nat.one_mul, ← Nat.mul_pow]
  have e2 : Bl ⟨1, 0, 7, 7⟩ n = 7 ^ n := rfl
  have hb : 0 < 7 ^ n := Nat.pow_pos (by decide)
  have eg : Nat.gcd (2 ^ n * 7 ^ n) (7 ^ n) = 7 ^ n := Nat.gcd_mul_left_left _ _
  unfold lowD
  rw [e1, e2, eg, Nat.mul_div_cancel _ hb, Nat.div_self hb]
  rfl
end K89
namespace K89
open PySem PySem.Spec PyProof.Rows L2 Dn
variable {η : Store}
theorem ceil_mul {g y : Int} (hg : 1 ≤ g) (h : 0 < y) : ceilI (g * y) y = g := by
  have h1 := ceil_up (x := g * y) h
  have h2 : g ≤ ceilI (g * y) y := Int.le_of_mul_le_mul_right h1 h
  have h3 := ceil_lo (x := g * y) h (by omega)
  have h4 := Int.lt_of_mul_lt_mul_right h3 (Int.le_of_lt h)
  omega
theorem late1 : F_least_start [.tup [.int 0, .int 0, .int 0, .int 5], .int 1000000000, .int 300] η = .ok (.int 1000000000) η := by
  have o : Pl.Ok ⟨0, 0, 0, 5⟩ := ⟨by decide, by decide, by decide, by decide, by decide⟩
  have e := leasts_ok (η := η) o (goal := 1000000000) (n := 300) (by decide) (by decide) (by decide) (by decide)
  have hb : Gr ⟨0, 0, 0, 5⟩ 300 = Bl ⟨0, 0, 0, 5⟩ 300 := rfl
  have hp := Bl_pos o 300
  have ex : ((1000000000 * Bl ⟨0, 0, 0, 5⟩ 300 : Nat) : Int) - ((0 * Qu ⟨0, 0, 0, 5⟩ 300 : Nat) : Int) = 1000000000 * (Bl ⟨0, 0, 0, 5⟩ 300 : Int) := by
    rw [Nat.zero_mul, Int.natCast_mul]; simp
  have ec : ceilI (((1000000000 * Bl ⟨0, 0, 0, 5⟩ 300 : Nat) : Int) - ((0 * Qu ⟨0, 0, 0, 5⟩ 300 : Nat) : Int)) (Gr ⟨0, 0, 0, 5⟩ 300) = 1000000000 := by
    rw [ex, hb]; exact ceil_mul (by decide) (by omega)
  rw [show ((⟨0, 0, 0, 5⟩ : Pl).d) = 0 from rfl, ec] at e
  exact e
theorem one_bl (s d n : Nat) : Bl ⟨s, d, 0, 1⟩ n = 1 := Nat.one_pow n
theorem one_gr (s d n : Nat) : Gr ⟨s, d, 0, 1⟩ n = 1 := Nat.one_pow n
theorem one_qu (s d n : Nat) : Qu ⟨s, d, 0, 1⟩ n = n := by rw [Qu_zero _ rfl, one_bl, Nat.mul_one]
theorem late2 : F_least_deposit [.tup [.int 0, .int 0, .int 0, .int 1], .int 301, .int 300] η = .ok (.int 2) η := by
  have o : Pl.Ok ⟨0, 0, 0, 1⟩ := ⟨by decide, by decide, by decide, by decide, by decide⟩
  have e := leastd_ok (η := η) o (goal := 301) (n := 300) (by decide) (by decide) (by decide) (by decide)
  rw [one_bl, one_gr, one_qu] at e
  exact e
theorem late3 : F_least_deposit [.tup [.int 301, .int 7, .int 0, .int 1], .int 301, .int 9] η = .ok (.int 0) η := by
  have o : Pl.Ok ⟨301, 7, 0, 1⟩ := ⟨by decide, by decide, by decide, by decide, by decide⟩
  have e := leastd_ok (η := η) o (goal := 301) (n := 9) (by decide) (by decide) (by decide) (by decide)
  rw [one_bl, one_gr, one_qu] at e
  exact e
theorem later_ok {k : Nat} (c : Cup k η) : ∃ η', F__law_late_right [.obj k] η = .ok (.bl true) η' ∧ Cup k η' := by
  refine (fun q : wpR (F__law_late_right [.obj k] η) (fun d η' => d = .bl true ∧ Cup k η') (fun _ _ => False) => ?_) ?_
  · obtain ⟨d, η', e, rfl, c⟩ := ok_of_wpR q
    exact ⟨η', e, c⟩
  unfold F__law_late_right b__law_late_right
  rw [w_runF]
  simp
  refine roll_ok.wp c (by decide) (by decide) fun r1 η1 h1 h2 c1 _ => ?_
  obtain ⟨m, rfl⟩ : ∃ m : Nat, r1 = m := ⟨r1.toNat, (Int.toNat_of_nonneg h1).symm⟩
  have em : (1 : Int) + (m : Int) = ((1 + m : Nat) : Int) := by omega
  simp only [addD_int, wpO_some, em]
  refine roll_ok.wp c1 (by decide) (by decide) fun r2 η2 h3 h4 c2 _ => ?_
  obtain ⟨d, rfl⟩ : ∃ d : Nat, r2 = d := ⟨r2.toNat, (Int.toNat_of_nonneg h3).symm⟩
  have ed : (1 : Int) + (d : Int) = ((1 + d : Nat) : Int) := by omega
  simp only [addD_int, wpO_some, ed]
  have hm1 : 1 ≤ 1 + m := by omega
  have hm2 : 1 + m ≤ 1000 := by omega
  have hd1 : 1 ≤ 1 + d := by omega
  have hd2 : 1 + d ≤ 1000 := by omega
  generalize 1 + m = many at hm1 hm2
  generalize 1 + d = dep at hd1 hd2
  refine roll_ok.wp c2 (by decide) (by decide) fun r3 η3 h5 h6 c3 _ => ?_
  obtain ⟨o, rfl⟩ : ∃ o : Nat, r3 = o := ⟨r3.toNat, (Int.toNat_of_nonneg h5).symm⟩
  have eo : (1 : Int) + (o : Int) = ((1 + o : Nat) : Int) := by omega
  simp only [addD_int, wpO_some, eo]
  have ho1 : 1 ≤ 1 + o := by omega
  have ho2 : 1 + o ≤ 9 := by omega
  generalize 1 + o = of at ho1 ho2
  refine roll_ok.wp c3 (by omega) (by omega) fun r4 η4 h7 h8 c4 _ => ?_
  obtain ⟨mo, rfl⟩ : ∃ mo : Nat, r4 = mo := ⟨r4.toNat, (Int.toNat_of_nonneg h7).symm⟩
  have hmo : mo < dep := by omega
  have hmd : dep ≤ many * dep := Nat.le_mul_of_pos_left dep hm1
  have hmd2 : many * dep ≤ 1000 * 1000 := Nat.mul_le_mul hm2 hd2
  have eg : (many : Int) * dep - mo = ((many * dep - mo : Nat) : Int) := by rw [← Int.natCast_mul]; omega
  have eg2 : (1000 : Int) * dep + 1 = ((1000 * dep + 1 : Nat) : Int) := by omega
  have hp : Pl.Ok ⟨0, dep, 0, of⟩ := ⟨show 0 ≤ 1000000 by omega, show dep ≤ 1000000 by omega, ho1, show of ≤ 10000 by omega, Nat.zero_le _⟩
  obtain ⟨t1, et1, f1⟩ := periods_ok (η := η4) hp (goal := many * dep - mo) (by omega) (by omega)
  obtain ⟨t2, et2, f2⟩ := periods_ok (η := η4) hp (goal := 1000 * dep + 1) (by omega) (by omega)
  have g1 : t1 = .int many := first_at f1 hm2 ((re_plain ho1).mpr (by rw [Nat.mul_comm dep]; omega)) fun k hk hr => by
    have h := (re_plain ho1).mp hr
    have h2 : dep * k ≤ dep * (many - 1) := Nat.mul_le_mul_left _ (by omega)
    have h3 : dep * (many - 1) + dep = many * dep := by
      have : many = (many - 1) + 1 := by omega
      conv => rhs; rw [this]
      rw [Nat.add_mul, Nat.one_mul, Nat.mul_comm]
    omega
  have g2 : t2 = .non := first_no f2 fun n hn hr => by
    have h := (re_plain ho1).mp hr
    have h2 : dep * n ≤ dep * 1000 := Nat.mul_le_mul_left _ hn
    omega
  subst g1 g2
  have et1' : F_periods_to [.tup [.int 0, .int dep, .int 0, .int of], .int ((many * dep - mo : Nat) : Int)] η4 = .ok (.int many) η4 := et1
  have et2' : F_periods_to [.tup [.int 0, .int dep, .int 0, .int of], .int ((1000 * dep + 1 : Nat) : Int)] η4 = .ok .non η4 := et2
  have mm1 : mulOk (many : Int) dep := mulOk_l (by omega) (by omega)
  rw [wpO_mulD]
  refine ⟨mm1, ?_⟩
  simp only [subD_int, wpO_some, eg]
  rw [et1', wpR_ok, wpO_mulD]
  refine ⟨mulOk_l (by decide) (by decide), ?_⟩
  simp only [addD_int, wpO_some, eg2]
  rw [et2', wpR_ok]
  refine wpR_of (same_ok 3 (.tup [.int many, .non]) _ (by simp [D.sm])) ?_
  simp
  refine roll_ok.wp c4 (by decide) (by decide) fun r5 η5 h9 h10 c5 _ => ?_
  obtain ⟨n, rfl⟩ : ∃ n : Nat, r5 = n := ⟨r5.toNat, (Int.toNat_of_nonneg h9).symm⟩
  have hn : n ≤ 29 := by omega
  simp [w_for]
  refine ⟨⟨by omega, by omega⟩, ?_⟩
  refine w_forL (fun i ρ η' => ∃ x1 x2 x3 x4 x5 x8 : Option D, ρ = [some (.obj k), x1, x2, x3, x4, x5, some (.int ((2 ^ i : Nat) : Int)), some (.int n), x8] ∧ η' = η5) _ 0 ⟨_, _, _, _, _, _, rfl, rfl⟩ ?_ ?_
  · rintro j x hx ρ η6 ⟨x1, x2, x3, x4, x5, x8, rfl, rfl⟩
    rw [Nat.zero_add]
    unfold b__law_late_right_1
    simp only [b_bN, wpO_some, List.set_cons_succ, List.set_cons_zero, w_asg, w_e2, w_gv, List.getElem?_cons_succ, List.getElem?_cons_zero, w_cst, wpO_mulD]
    refine ⟨mulOk_r (by decide) (by decide), x1, x2, x3, x4, x5, some x, ?_, trivial⟩
    rw [show ((2 ^ j : Nat) : Int) * 2 = ((2 ^ (j + 1) : Nat) : Int) by rw [Nat.pow_succ]; simp]
  · rintro ρ η6 ⟨x1, x2, x3, x4, x5, x8, rfl, rfl⟩
    rw [Nat.zero_add, rng_length]
    have hpw : 2 ^ n ≤ 2 ^ 29 := Nat.pow_le_pow_right (by decide) hn
    have hpw2 : (2 : Nat) ^ 29 ≤ 1000000000 := by decide
    have hp0 : 1 ≤ 2 ^ n := Nat.one_le_pow _ _ (by decide)
    have o1 : Pl.Ok ⟨1, 0, 3, 3⟩ := ⟨by decide, by decide, by decide, by decide, by decide⟩
    have o2 : Pl.Ok ⟨0, 1, 1, 1⟩ := ⟨by decide, by decide, by decide, by decide, by decide⟩
    have o3 : Pl.Ok ⟨1, 0, 7, 7⟩ := ⟨by decide, by decide, by decide, by decide, by decide⟩
    obtain ⟨t3, et3, f3⟩ := periods_ok (η := η6) o1 (goal := 2 ^ n) hp0 (by omega)
    obtain ⟨t4, et4, f4⟩ := periods_ok (η := η6) o2 (goal := 2 ^ n) hp0 (by omega)
    have g3 : t3 = .int n := first_at f3 (by omega) (re_three.mpr (Nat.le_refl _)) fun i hi hr => by
      have h := re_three.mp hr
      have : 2 ^ i < 2 ^ n := Nat.pow_lt_pow_right (by decide) hi
      omega
    have g4 : t4 = .int ((n + 1 : Nat) : Int) := first_at f4 (by omega) (re_one.mpr (by rw [Nat.pow_succ]; omega)) fun i hi hr => by
      have h := re_one.mp hr
      have : 2 ^ i ≤ 2 ^ n := Nat.pow_le_pow_right (by decide) (by omega)
      omega
    subst g3 g4
    have et3' : F_periods_to [.tup [.int 1, .int 0, .int 3, .int 3], .int ((2 ^ n : Nat) : Int)] η6 = .ok (.int n) η6 := et3
    have et4' : F_periods_to [.tup [.int 0, .int 1, .int 1, .int 1], .int ((2 ^ n : Nat) : Int)] η6 = .ok (.int ((n + 1 : Nat) : Int)) η6 := et4
    have et5 : F_balance [.tup [.int 1, .int 0, .int 7, .int 7], .int n] η6 = .ok (.tup [.int ((2 ^ n : Nat) : Int), .int 1]) η6 := by
      have := balance_ok (η := η6) o3 (n := n) (by omega)
      rw [low_seven] at this
      exact this
    have et6 : F_whole_balance [.tup [.int 0, .int 1, .int 1, .int 1], .int n] η6 = .ok (.int (Wh ⟨0, 1, 1, 1⟩ n)) η6 := wholebal_ok o2 (n := n) (by omega)
    have hw := wh_one n
    have ew : ((2 ^ n : Nat) : Int) - 1 = (Wh ⟨0, 1, 1, 1⟩ n : Int) := by omega
    have en1 : (n : Int) + 1 = ((n + 1 : Nat) : Int) := by omega
    dsimp only
    simp only [List.getElem?_cons_succ, List.getElem?_cons_zero, wpO_some]
    rw [et3', wpR_ok]
    rw [et4', wpR_ok]
    rw [et5, wpR_ok]
    rw [et6, wpR_ok]
    simp only [List.length_cons, List.length_nil, List.set_cons_succ, List.set_cons_zero, List.getElem?_cons_succ, List.getElem?_cons_zero, wpO_some, addD_int, subD_int, ew, en1]
    refine wpR_of (same_ok 3 _ _ (by simp [D.sm])) ?_
    simp
    rw [late1, wpR_ok, late2, wpR_ok, late3, wpR_ok]
    exact wpR_of (same_ok 3 _ _ (by simp [D.sm])) ⟨rfl, c5⟩
theorem law_true : ∀ ns : List Int, ns.length ≤ 63 → ∃ η', F_law [.scr (ns.map D.int)] [] = .ok (.bl true) η' := by
  intro ns hl
  refine (fun h : wpR (F_law [.scr (ns.map D.int)] []) (fun d _ => d = .bl true) (fun _ _ => False) => ?_) ?_
  · obtain ⟨d, η', e, rfl⟩ := ok_of_wpR h
    exact ⟨η', e⟩
  obtain ⟨η1, e1, c1⟩ := cup_ok ns hl
  unfold F_law b_law
  rw [w_runF]
  simp [w_for]
  refine wpR_of e1 ?_
  refine ⟨⟨by decide, by decide⟩, ?_⟩
  refine w_forL (fun i ρ η' => Cup 0 η' ∧ ∃ y0 y2 : Option D, ρ = [y0, some (.obj 0), y2]) _ 0 ⟨c1, _, _, rfl⟩ ?_ ?_
  · rintro j x hx ρ η2 ⟨c2, y0, y2, rfl⟩
    simp only [b_bN, wpO_some, List.set_cons_succ, List.set_cons_zero]
    obtain ⟨η3, e3, c3⟩ := balr_ok c2
    obtain ⟨η4, e4, c4⟩ := goalr_ok c3
    obtain ⟨η5, e5, c5⟩ := timer_ok c4
    unfold b_law_1
    simp
    refine wpR_of e3 ?_
    simp
    refine wpR_of e4 ?_
    simp
    refine wpR_of e5 ?_
    simp
    exact c5
  · rintro ρ η2 ⟨c2, y0, y2, rfl⟩
    obtain ⟨η3, e3, c3⟩ := later_ok c2
    simp
    exact wpR_of e3 rfl
end K89
open PySem PySem.W PySem.Calls PyProof.Rows
theorem PySem.Challenge.cw_coinmaster_k89_whole_balances_of_savings_holds : PySem.Challenge.rw_coinmaster_k89_whole_balances_of_savings.Holds := by
  w_on; o_law
  refine HandSHeadRun.head_any (r := OpenLaw.row PySem.Challenge.rw_coinmaster_k89_whole_balances_of_savings) (q := view (OpenLaw.row PySem.Challenge.rw_coinmaster_k89_whole_balances_of_savings).prog [44]) (H := K89.hk) (ob := K89.ob) (M := 4000) (loose := K89.loose) (d := HandSHeadRun.topDef (OpenLaw.row PySem.Challenge.rw_coinmaster_k89_whole_balances_of_savings).prog 44) (kwd := []) K89.ob_eq
    (by kernel_rfl) (fun s => by kernel_rfl) K89.run (by kernel_rfl) (by kernel_rfl) (by kernel_rfl) (by rfl) (by first | assumption | decide +kernel) (by decide +kernel) ⟨rfl, rfl, rfl, rfl, rfl, by decide +kernel⟩ ?hw ?hc
  case hw => w_witness2
  case hc =>
    refine L2.walk_ofE (l := PySem.Challenge.rw_coinmaster_k89_whole_balances_of_savings) (n := 63) (k := 8) (x := "script") (CX := L2.CX0) rfl (by decide) (by kernel_rfl) ⟨rfl, by decide, by decide⟩ ?F (fun _ _ _ _ z => z)
    intro w mg fa h Y G hmg0
    obtain ⟨K, KX, c⟩ := Y
    have hmg : mg ("law" : PySem.Str) = some (.ref fa) := by
      have e : (HandSHeadRun.topDef (OpenLaw.row PySem.Challenge.rw_coinmaster_k89_whole_balances_of_savings).prog 44).name = ("law" : PySem.Str) := by kernel_rfl
      rw [← e]
      exact hmg0
    have S := K89.fx_of KX G c
    obtain ⟨fd, F⟩ := S.f_law.f
    have e := hmg.symm.trans S.f_law.g
    cases e
    have b := L2.FunD.bindsA (ps := ["script"]) F fun _ _ _ _ _ _ us hl => match us, hl with | [_], _ => rfl
    exact ⟨K, fd, fun vs H Q _ => Dn.spD K 1 K89.F_law vs H Q L2.E0, KX, fun s v => b s [v] rfl, Dn.law_sp K89.law_true, fun base _ _ => Dn.FnOk.no_exc (K89.law_fn S F)⟩
