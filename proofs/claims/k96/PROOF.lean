import PyProof.Rows.All
import Wide.All
import OpenK.AllK
import Wide.FinOn
import HandS.Base
import HandS.Call
import HandS.List
import HandS.Words
import HandS.HeadHook1
import HandS.Lambda
import HandS.HeadHook4
import HandS.EndTab
import HandS.HeadWalk
import HandS.ExcCtx
import HandS.Hot
import HandS.ExcIs
import HandS.Flow
import HandS.Exc
import HandS.ExcOwn
import HandS.TryOnly
import HandS.WordsExc
import HandS.Defaults
import HandS.Comp
import HandS.Iter
import HandS.TupAny
import HandS.Wide
import HandS.Style
import HandS.IsInst
import HandS.SortInts
import HandS.TupMul
import PyProof.ConsumeWalk
import PyProof.ConsumeS
import KE.GoesMore
import KE.GoesEnum
import HandS.More
import HandS.Conv
import PyProof.SumWalkG
import PyProof.WalkInts
import PyProof.WalksMore
import HandS.Small
import HandS.Deep
import HandS.CallSlots
import HandS.Head0
import HandS.Head1
import HandS.Head2
import HandS.HeadEnd
import HandS.HeadHook2
import HandS.RaiseMore
import HandS.SetFor
import HandS.TupSets
import KE.GoesComp
import PyProof.RulesMatch
import HandS.Text
import HandS.CallLocal
import HandS.DictTup
import KE.KDictDisplayH
import HandS.HeadHook3
import HandS.ExcValue
import KE.DataCmp
import KE.DataMinMax
import KE.SortData
import PyProof.Claim2Refuses
import KE.SortCalls
import KE.KDictPairs
import KE.KDictCopyH
import HandS.TupLen
import KE.KDictKeyed
import KE.KEqDict
import PySem.Challenge.RW_coinmaster_k96_whole_queues_served
set_option Elab.async false
set_option linter.all false
set_option maxRecDepth 100000
set_option maxHeartbeats 0
/-! Dn: data by value over the hand layer. Part 1: data, worlds, the relation. -/
namespace Dn
open PySem PySem.Spec PyProof.Rows L2

/-- data: tuples, and lists that are never changed, by value; obj: a thing that may change, by its place in the store -/
inductive D where
  | non | bl (b : Bool) | int (i : Int) | str (x : Str)
  | tup (xs : List D) | lst (xs : List D) | scr (xs : List D)
  | obj (i : Nat) | gl (x : Str) | ty (n : String) | adr (a : Addr)
/-- a thing that may change -/
inductive O where
  | lst (xs : List D)
  | dK (kvs : List (Key × D))
  | dT (kvs : List (List Key × D))
  | ins (c : Str) (fs : List (Str × D))
  /-- dicts that are being walked -/
  | lkK (fs : List (Key × D))
  | lkT (fs : List (List Key × D))
abbrev Env := List (Option D)
abbrev Store := List O
/-- the addresses of the store's things; those of lists that are being made -/
structure Wd where
  io : List Addr
  bz : List Addr

def KT (K : PySem.W.Frag) (a : Addr) (xs : List V) : Prop :=
  ∃ (o : Obj) (its : Array Value) (n : Nat), K.lookup a = some o ∧ o.cls = .type "tuple" ∧ o.data = .seq its n ∧ its.size ≤ sizeLine ∧ Vals xs its.toList
def KL (K : PySem.W.Frag) (a : Addr) (xs : List V) : Prop :=
  ∃ (o : Obj) (its : Array Value) (n : Nat), K.lookup a = some o ∧ o.cls = .type "list" ∧ o.dict = none ∧ o.data = .seq its n ∧ its.size ≤ sizeLine ∧ Vals xs its.toList
def StT (_ : PySem.W.Frag) (w : Wd) (H : Hp) (a : Addr) (xs : List V) : Prop := H a = some (.tup xs) ∧ a ∉ w.io ∧ a ∉ w.bz
def StL (w : Wd) (H : Hp) (a : Addr) (xs : List V) : Prop := H a = some (.lst xs) ∧ a ∉ w.io ∧ a ∉ w.bz
/-- a list that nobody may write: the script, a list of the module's top -/
def StF (K : PySem.W.Frag) (w : Wd) (H : Hp) (a : Addr) (xs : List V) : Prop := (Rd H a (.lst xs) ∧ a ∉ w.io ∧ a ∉ w.bz) ∨ KL K a xs
theorem StT.sq {K : PySem.W.Frag} {w : Wd} {H : Hp} {a : Addr} {xs : List V} (h : StT K w H a xs) : SqT K H a xs := .inl (.inl h.1)
theorem StL.sq {K : PySem.W.Frag} {w : Wd} {H : Hp} {a : Addr} {xs : List V} (h : StL w H a xs) : SqL K H a xs := .inl (.inl h.1)
theorem StF.sq {K : PySem.W.Frag} {w : Wd} {H : Hp} {a : Addr} {xs : List V} (h : StF K w H a xs) : SqL K H a xs := by
  rcases h with ⟨h, _⟩ | h
  · exact .inl h
  · exact .inr h
mutual
inductive RepV (K : PySem.W.Frag) (w : Wd) (H : Hp) : V → D → Prop
  | non : RepV K w H .non .non
  | bl (b : Bool) : RepV K w H (.bl b) (.bl b)
  | int (i : Int) : RepV K w H (.int i) (.int i)
  | str (x : Str) : RepV K w H (.str x) (.str x)
  | tup {a : Addr} {xs : List V} {ds : List D} : StT K w H a xs → RepVs K w H xs ds → RepV K w H (.ref a) (.tup ds)
  | lst {a : Addr} {xs : List V} {ds : List D} : StL w H a xs → RepVs K w H xs ds → RepV K w H (.ref a) (.lst ds)
  | scr {a : Addr} {xs : List V} {ds : List D} : StF K w H a xs → RepVs K w H xs ds → RepV K w H (.ref a) (.scr ds)
  | obj {i : Nat} {a : Addr} : w.io[i]? = some a → RepV K w H (.ref a) (.obj i)
  | gl (x : Str) : RepV K w H (.ref (He.ga K x)) (.gl x)
  | ty (n : String) : RepV K w H (.ty n) (.ty n)
  | adr (a : Addr) : RepV K w H (.ref a) (.adr a)
inductive RepVs (K : PySem.W.Frag) (w : Wd) (H : Hp) : List V → List D → Prop
  | nil : RepVs K w H [] []
  | cons {v : V} {vs : List V} {d : D} {ds : List D} : RepV K w H v d → RepVs K w H vs ds → RepVs K w H (v :: vs) (d :: ds)
end
/-- no table of code objects -/
def Nt (o : HO) : Prop := ∀ ps, o ≠ .tbl ps
theorem nt_lst {xs : List V} : Nt (.lst xs) := fun _ e => by cases e
theorem nt_tup {xs : List V} : Nt (.tup xs) := fun _ e => by cases e
theorem nt_dK {xs : List (Key × V)} : Nt (.dK xs) := fun _ e => by cases e
theorem nt_dT {xs : List (List Key × V)} : Nt (.dT xs) := fun _ e => by cases e
theorem nt_ins {C d : Addr} {xs : List (Str × V)} : Nt (.ins C d xs) := fun _ e => by cases e
theorem nt_frz {o : Obj} {u : HO} : Nt (.frz o u) := fun _ e => by cases e
theorem nt_xd {xs : List (Str × V)} : Nt (.xd xs) := fun _ e => by cases e
/-- .. and no code object, no tuple -/
def Ny (o : HO) : Prop := Nt o ∧ (∀ φ, o ≠ .ext φ) ∧ ∀ xs, o ≠ .tup xs
theorem ny_lst {xs : List V} : Ny (.lst xs) := ⟨nt_lst, fun _ e => (by cases e), fun _ e => by cases e⟩
theorem ny_dK {xs : List (Key × V)} : Ny (.dK xs) := ⟨nt_dK, fun _ e => (by cases e), fun _ e => by cases e⟩
theorem ny_dT {xs : List (List Key × V)} : Ny (.dT xs) := ⟨nt_dT, fun _ e => (by cases e), fun _ e => by cases e⟩
theorem ny_ins {C d : Addr} {xs : List (Str × V)} : Ny (.ins C d xs) := ⟨nt_ins, fun _ e => (by cases e), fun _ e => by cases e⟩
theorem ny_frz {o : Obj} {u : HO} : Ny (.frz o u) := ⟨nt_frz, fun _ e => (by cases e), fun _ e => by cases e⟩
theorem ny_xd {xs : List (Str × V)} : Ny (.xd xs) := ⟨nt_xd, fun _ e => (by cases e), fun _ e => by cases e⟩
/-- the names of defs that make lambdas -/
def lamNames : List Str := ["law", "_law_nine", "_law_words", "_law_right", "_law_four", "_law_seven", "_law_three", "_law_texts_right", "_law_first_right", "_law_written_right", "_law_part_one", "_law_part_two", "_law_great_right", "_law_log_right", "_law_long", "_law_signs_right", "chained"]
def lamOn (K : PySem.W.Frag) (x : Str) : Bool := PySem.W.codeHdIn K (He.cT K (x, none)).1 (He.cT K (x, none)).2
/-- the tables of their code objects, and the names that lambdas bear -/
def lamT (K : PySem.W.Frag) : List (Addr × Str) := (lamNames.filter (lamOn K)).map fun x => ((He.cT K (x, none)).2, x ++ ".<locals>." ++ "<lambda>")
/-- values stay what they are -/
structure Mv (w : Wd) (H : Hp) (w' : Wd) (H' : Hp) : Prop where
  pre : ∃ t, w'.io = w.io ++ t
  keep : ∀ a o, H a = some o → Nt o → a ∉ w.io → a ∉ w.bz → H' a = some o ∧ a ∉ w'.io ∧ a ∉ w'.bz
/-- what stands, stands -/
structure Ext (w : Wd) (H : Hp) (w' : Wd) (H' : Hp) : Prop extends Mv w H w' H' where
  bz : ∀ a ∈ w.bz, a ∈ w'.bz ∧ H' a = H a
  fz : ∀ a od u, H a = some (.frz od u) → H' a = some (.frz od u)
section
variable {K : PySem.W.Frag} {w w1 w2 w' : Wd} {H H1 H2 H' : Hp} {v : V} {d : D} {vs xs : List V} {ds : List D} {a p : Addr} {o : HO}
theorem Ext.refl : Ext w H w H := ⟨⟨⟨[], by simp⟩, fun _ _ h _ n b => ⟨h, n, b⟩⟩, fun _ h => ⟨h, rfl⟩, fun _ _ _ h => h⟩
theorem Ext.trans (a : Ext w H w1 H1) (b : Ext w1 H1 w2 H2) : Ext w H w2 H2 := by
  obtain ⟨t, e⟩ := a.pre
  obtain ⟨u, f⟩ := b.pre
  exact ⟨⟨⟨t ++ u, by rw [f, e, List.append_assoc]⟩, fun c o h k n m => let ⟨h1, n1, m1⟩ := a.keep c o h k n m; b.keep c o h1 k n1 m1⟩,
    fun c hc => let ⟨h1, e1⟩ := a.bz c hc; let ⟨h2, e2⟩ := b.bz c h1; ⟨h2, e2.trans e1⟩, fun c od u h => b.fz c od u (a.fz c od u h)⟩
theorem Mv.get (e : Mv w H w' H') {i : Nat} (h : w.io[i]? = some a) : w'.io[i]? = some a := by
  obtain ⟨t, f⟩ := e.pre
  rw [f, List.getElem?_append_left (List.getElem?_eq_some_iff.mp h).1]
  exact h
theorem Rd.ext {u : HO} (e : Mv w H w' H') (k : Nt u) (h : Rd H a u) (n : a ∉ w.io) (b : a ∉ w.bz) : Rd H' a u ∧ a ∉ w'.io ∧ a ∉ w'.bz := by
  rcases h with h | ⟨o, h⟩
  · exact ⟨.inl (e.keep _ _ h k n b).1, (e.keep _ _ h k n b).2⟩
  · exact ⟨.inr ⟨o, (e.keep _ _ h nt_frz n b).1⟩, (e.keep _ _ h nt_frz n b).2⟩
theorem StT.mv (e : Mv w H w' H') (h : StT K w H a xs) : StT K w' H' a xs := e.keep _ _ h.1 nt_tup h.2.1 h.2.2
theorem StL.mv (e : Mv w H w' H') (h : StL w H a xs) : StL w' H' a xs := e.keep _ _ h.1 nt_lst h.2.1 h.2.2
theorem StF.mv (e : Mv w H w' H') (h : StF K w H a xs) : StF K w' H' a xs := by
  rcases h with ⟨h, n, b⟩ | h
  · exact .inl (Rd.ext e nt_lst h n b)
  · exact .inr h
theorem StT.ext (e : Ext w H w' H') (h : StT K w H a xs) : StT K w' H' a xs := h.mv e.toMv
theorem StL.ext (e : Ext w H w' H') (h : StL w H a xs) : StL w' H' a xs := h.mv e.toMv
theorem StF.ext (e : Ext w H w' H') (h : StF K w H a xs) : StF K w' H' a xs := h.mv e.toMv
end
section
variable {K : PySem.W.Frag} {w w' : Wd} {H H' : Hp}
mutual
theorem RepV.mv (e : Mv w H w' H') : ∀ {v : V} {d : D}, RepV K w H v d → RepV K w' H' v d
  | _, _, .non => .non
  | _, _, .bl b => .bl b
  | _, _, .int i => .int i
  | _, _, .str x => .str x
  | _, _, .tup h hs => .tup (h.mv e) (RepVs.mv e hs)
  | _, _, .lst h hs => .lst (h.mv e) (RepVs.mv e hs)
  | _, _, .scr h hs => .scr (h.mv e) (RepVs.mv e hs)
  | _, _, .obj h => .obj (e.get h)
  | _, _, .gl x => .gl x
  | _, _, .ty n => .ty n
  | _, _, .adr a => .adr a
theorem RepVs.mv (e : Mv w H w' H') : ∀ {vs : List V} {ds : List D}, RepVs K w H vs ds → RepVs K w' H' vs ds
  | _, _, .nil => .nil
  | _, _, .cons h hs => .cons (RepV.mv e h) (RepVs.mv e hs)
end
theorem RepV.ext (e : Ext w H w' H') {v : V} {d : D} (h : RepV K w H v d) : RepV K w' H' v d := h.mv e.toMv
theorem RepVs.ext (e : Ext w H w' H') {vs : List V} {ds : List D} (h : RepVs K w H vs ds) : RepVs K w' H' vs ds := h.mv e.toMv
end
section
variable {K : PySem.W.Frag} {w w1 w2 w' : Wd} {H H1 H2 H' : Hp} {v : V} {d : D} {vs xs ys : List V} {ds es : List D} {a p : Addr} {o : HO}
theorem RepVs.length : ∀ {vs : List V} {ds : List D}, RepVs K w H vs ds → vs.length = ds.length
  | _, _, .nil => rfl
  | _, _, .cons _ h => by rw [List.length_cons, List.length_cons, RepVs.length h]
theorem RepVs.get : ∀ {vs : List V} {ds : List D} {i : Nat} {d : D}, RepVs K w H vs ds → ds[i]? = some d → ∃ v, vs[i]? = some v ∧ RepV K w H v d
  | _, _, _, _, .nil, e => by simp at e
  | _, _, 0, _, .cons r _, e => by simp at e; subst e; exact ⟨_, rfl, r⟩
  | _, _, i + 1, d, .cons _ t, e => by
    obtain ⟨u, h1, h2⟩ := RepVs.get (i := i) (d := d) t (by simpa using e)
    exact ⟨u, by simpa using h1, h2⟩
theorem RepVs.getV : ∀ {vs : List V} {ds : List D} {i : Nat} {v : V}, RepVs K w H vs ds → vs[i]? = some v → ∃ d, ds[i]? = some d ∧ RepV K w H v d
  | _, _, _, _, .nil, e => by simp at e
  | _, _, 0, _, .cons r _, e => by simp at e; subst e; exact ⟨_, rfl, r⟩
  | _, _, i + 1, d, .cons _ t, e => by
    obtain ⟨u, h1, h2⟩ := RepVs.getV (i := i) (v := d) t (by simpa using e)
    exact ⟨u, by simpa using h1, h2⟩
theorem RepVs.append : ∀ {vs xs : List V} {ds es : List D}, RepVs K w H vs ds → RepVs K w H xs es → RepVs K w H (vs ++ xs) (ds ++ es)
  | _, _, _, _, .nil, s => s
  | _, _, _, _, .cons r t, s => .cons r (RepVs.append t s)
theorem RepVs.take : ∀ {vs : List V} {ds : List D} (n : Nat), RepVs K w H vs ds → RepVs K w H (vs.take n) (ds.take n)
  | _, _, 0, _ => .nil
  | _, _, _ + 1, .nil => .nil
  | _, _, n + 1, .cons r t => .cons r (RepVs.take n t)
theorem RepVs.drop : ∀ {vs : List V} {ds : List D} (n : Nat), RepVs K w H vs ds → RepVs K w H (vs.drop n) (ds.drop n)
  | _, _, 0, r => r
  | _, _, _ + 1, .nil => .nil
  | _, _, n + 1, .cons _ t => RepVs.drop n t
theorem RepVs.set (r : RepV K w H v d) : ∀ {vs : List V} {ds : List D} (i : Nat), RepVs K w H vs ds → RepVs K w H (vs.set i v) (ds.set i d)
  | _, _, _, .nil => .nil
  | _, _, 0, .cons _ t => .cons r t
  | _, _, i + 1, .cons q t => .cons q (RepVs.set r i t)
theorem RepVs.reverse : ∀ {vs : List V} {ds : List D}, RepVs K w H vs ds → RepVs K w H vs.reverse ds.reverse
  | _, _, .nil => .nil
  | _, _, .cons r t => by rw [List.reverse_cons, List.reverse_cons]; exact (RepVs.reverse t).append (.cons r .nil)
theorem RepVs.one {v : V} {d : D} (h : RepV K w H v d) : RepVs K w H [v] [d] := .cons h .nil
/-- named values -/
def RepF {κ : Type} (K : PySem.W.Frag) (w : Wd) (H : Hp) (xs : List (κ × V)) (fs : List (κ × D)) : Prop := xs.map (·.1) = fs.map (·.1) ∧ RepVs K w H (xs.map (·.2)) (fs.map (·.2))
theorem RepF.mv {κ : Type} {xs : List (κ × V)} {fs : List (κ × D)} (e : Mv w H w' H') (h : RepF K w H xs fs) : RepF K w' H' xs fs := ⟨h.1, h.2.mv e⟩
theorem RepF.ext {κ : Type} {xs : List (κ × V)} {fs : List (κ × D)} (e : Ext w H w' H') (h : RepF K w H xs fs) : RepF K w' H' xs fs := h.mv e.toMv
def RepO (K : PySem.W.Frag) (w : Wd) (H : Hp) (a : Addr) : O → Prop
  | .lst ds => ∃ xs, H a = some (.lst xs) ∧ RepVs K w H xs ds
  | .dK fs => ∃ xs, H a = some (.dK xs) ∧ RepF K w H xs fs
  | .dT fs => ∃ xs, H a = some (.dT xs) ∧ RepF K w H xs fs
  | .ins c fs => ∃ dx xs, H a = some (.ins (He.ga K c) dx xs) ∧ RepF K w H xs fs
  | .lkK fs => ∃ od xs, H a = some (.frz od (.dK xs)) ∧ RepF K w H xs fs
  | .lkT fs => ∃ od xs, H a = some (.frz od (.dT xs)) ∧ RepF K w H xs fs
theorem RepO.some {o : O} (h : RepO K w H a o) : ∃ u, H a = some u := by
  cases o with
  | lst ds => obtain ⟨xs, e, _⟩ := h; exact ⟨_, e⟩
  | dK ds => obtain ⟨xs, e, _⟩ := h; exact ⟨_, e⟩
  | dT ds => obtain ⟨xs, e, _⟩ := h; exact ⟨_, e⟩
  | ins c ds => obtain ⟨_, xs, e, _⟩ := h; exact ⟨_, e⟩
  | lkK ds => obtain ⟨_, _, e, _⟩ := h; exact ⟨_, e⟩
  | lkT ds => obtain ⟨_, _, e, _⟩ := h; exact ⟨_, e⟩
theorem RepO.mv {o : O} (e : Mv w H w' H') (k : H' a = H a) (h : RepO K w H a o) : RepO K w' H' a o := by
  cases o with
  | lst ds => obtain ⟨xs, f, r⟩ := h; exact ⟨xs, k.trans f, r.mv e⟩
  | dK ds => obtain ⟨xs, f, r⟩ := h; exact ⟨xs, k.trans f, r.mv e⟩
  | dT ds => obtain ⟨xs, f, r⟩ := h; exact ⟨xs, k.trans f, r.mv e⟩
  | ins c ds => obtain ⟨dx, xs, f, r⟩ := h; exact ⟨dx, xs, k.trans f, r.mv e⟩
  | lkK ds => obtain ⟨od, xs, f, r⟩ := h; exact ⟨od, xs, k.trans f, r.mv e⟩
  | lkT ds => obtain ⟨od, xs, f, r⟩ := h; exact ⟨od, xs, k.trans f, r.mv e⟩
theorem RepO.ext {o : O} (e : Ext w H w' H') (k : H' a = H a) (h : RepO K w H a o) : RepO K w' H' a o := h.mv e.toMv k
structure HeapRel (K : PySem.W.Frag) (w : Wd) (H : Hp) (η : Store) : Prop where
  len : w.io.length = η.length
  nd : w.io.Nodup
  at_ : ∀ (i : Nat) (a : Addr) (o : O), w.io[i]? = some a → η[i]? = some o → RepO K w H a o
  bz : ∀ a ∈ w.bz, a ∉ w.io ∧ ∃ u, H a = some u ∧ Ny u
  tb : LamX.Tabs (lamT K) H
theorem repO_ny {o : O} (h : RepO K w H a o) : ∃ u, H a = some u ∧ Ny u := by
  cases o with
  | lst ds => obtain ⟨xs, e, _⟩ := h; exact ⟨_, e, ny_lst⟩
  | dK ds => obtain ⟨xs, e, _⟩ := h; exact ⟨_, e, ny_dK⟩
  | dT ds => obtain ⟨xs, e, _⟩ := h; exact ⟨_, e, ny_dT⟩
  | ins c ds => obtain ⟨_, xs, e, _⟩ := h; exact ⟨_, e, ny_ins⟩
  | lkK ds => obtain ⟨_, _, e, _⟩ := h; exact ⟨_, e, ny_frz⟩
  | lkT ds => obtain ⟨_, _, e, _⟩ := h; exact ⟨_, e, ny_frz⟩
theorem tabs_upd {T : List (Addr × Str)} {u : HO} (t : LamX.Tabs T H) (ha : H a = some u) (k : Ny u) : LamX.Tabs T (upd H a o) := by
  intro p hp
  obtain ⟨ps, h1, h2, h3⟩ := t p hp
  have ne : p.1 ≠ a := fun z => by
    rw [z, ha] at h1
    exact k.1 ps (Option.some.inj h1)
  refine ⟨ps, by rw [upd_ne ne]; exact h1, h2, fun pos cv hc => ?_⟩
  obtain ⟨c, e1, e2⟩ := h3 pos cv hc
  refine ⟨c, e1, ?_⟩
  rw [upd_ne]
  · exact e2
  · intro z
    rw [z, ha] at e2
    exact k.2.1 _ (Option.some.inj e2)
theorem tabs_new {T : List (Addr × Str)} (t : LamX.Tabs T H) (hp : H p = none) : LamX.Tabs T (upd H p o) := t.ext fun b u h => by rw [upd_ne (ne_of_none h hp)]; exact h
theorem HeapRel.trkN {η : Store} (h : HeapRel K w H η) (ha : a ∈ w.io) : ∃ u, H a = some u ∧ Ny u := by
  obtain ⟨i, hi, e⟩ := List.getElem_of_mem ha
  have e1 : w.io[i]? = some a := by rw [List.getElem?_eq_getElem hi, e]
  have hi2 : i < η.length := h.len ▸ hi
  exact repO_ny (h.at_ i a _ e1 (List.getElem?_eq_getElem hi2))
theorem HeapRel.trk {η : Store} (h : HeapRel K w H η) (ha : a ∈ w.io) : ∃ u, H a = some u := by
  obtain ⟨i, hi, e⟩ := List.getElem_of_mem ha
  have e1 : w.io[i]? = some a := by rw [List.getElem?_eq_getElem hi, e]
  have hi2 : i < η.length := h.len ▸ hi
  exact (h.at_ i a _ e1 (List.getElem?_eq_getElem hi2)).some
theorem HeapRel.new {η : Store} (h : HeapRel K w H η) (hp : H p = none) : p ∉ w.io ∧ p ∉ w.bz := by
  refine ⟨fun q => ?_, fun q => ?_⟩
  · obtain ⟨u, e⟩ := h.trk q; rw [hp] at e; cases e
  · obtain ⟨_, u, e, _⟩ := h.bz p q; rw [hp] at e; cases e
/-- a new object that never changes -/
theorem Mv.laid (hp : H p = none) : Mv w H w (upd H p o) := ⟨⟨[], by simp⟩, fun b u h _ m n => ⟨by rw [upd_ne (ne_of_none h hp)]; exact h, m, n⟩⟩
theorem Ext.laid {η : Store} (hp : H p = none) (hr : HeapRel K w H η) : Ext w H w (upd H p o) :=
  ⟨Mv.laid hp, fun b hb => ⟨hb, by obtain ⟨_, u, f, _⟩ := hr.bz b hb; rw [upd_ne (ne_of_none f hp)]⟩, fun b od u h => by rw [upd_ne (ne_of_none h hp)]; exact h⟩
theorem HeapRel.laid {η : Store} (h : HeapRel K w H η) (hp : H p = none) : HeapRel K w (upd H p o) η := by
  have e : Ext w H w (upd H p o) := Ext.laid hp h
  refine ⟨h.len, h.nd, fun i a ob ha ho => ?_, fun b hb => ?_, tabs_new h.tb hp⟩
  · refine (h.at_ i a ob ha ho).ext e (upd_ne fun q => ?_)
    subst q
    exact (h.new hp).1 (List.mem_of_getElem? ha)
  · obtain ⟨n, u, f, k⟩ := h.bz b hb
    exact ⟨n, u, by rw [upd_ne (ne_of_none f hp)]; exact f, k⟩
theorem StT.of_new {η : Store} (h : HeapRel K w H η) (hp : H p = none) : StT K w (upd H p (.tup xs)) p xs := ⟨upd_same, (h.new hp).1, (h.new hp).2⟩
theorem StL.of_new {η : Store} (h : HeapRel K w H η) (hp : H p = none) : StL w (upd H p (.lst xs)) p xs := ⟨upd_same, (h.new hp).1, (h.new hp).2⟩
/-- a new thing that may change -/
abbrev Wd.more (w : Wd) (p : Addr) : Wd := ⟨w.io ++ [p], w.bz⟩
theorem Ext.more {η : Store} (hp : H p = none) (hr : HeapRel K w H η) : Ext w H (w.more p) (upd H p o) :=
  ⟨⟨⟨[p], rfl⟩, fun b u h _ m n => ⟨by rw [upd_ne (ne_of_none h hp)]; exact h, (by
    intro q
    rcases List.mem_append.mp q with q | q
    · exact m q
    · have e : b = p := by simpa using q
      rw [e, hp] at h; cases h), n⟩⟩, fun b hb => ⟨hb, by obtain ⟨_, u, f, _⟩ := hr.bz b hb; rw [upd_ne (ne_of_none f hp)]⟩, fun b od u h => by rw [upd_ne (ne_of_none h hp)]; exact h⟩
theorem HeapRel.more {η : Store} {ob : O} (h : HeapRel K w H η) (hp : H p = none) (r : RepO K (w.more p) (upd H p o) p ob) : HeapRel K (w.more p) (upd H p o) (η ++ [ob]) := by
  have e : Ext w H (w.more p) (upd H p o) := Ext.more hp h
  have hn := h.new hp
  refine ⟨by simp [h.len], ?_, fun i a ob' ha ho => ?_, fun b hb => ?_, tabs_new h.tb hp⟩
  · exact List.nodup_append.mpr ⟨h.nd, by simp, fun a ha b hb => by
      have e : b = p := by simpa using hb
      subst e
      exact fun q => hn.1 (q ▸ ha)⟩
  · by_cases hi : i < w.io.length
    · rw [List.getElem?_append_left hi] at ha
      rw [List.getElem?_append_left (h.len ▸ hi)] at ho
      refine (h.at_ i a ob' ha ho).ext e (upd_ne fun q => ?_)
      subst q
      exact hn.1 (List.mem_of_getElem? ha)
    · have hi' : i = w.io.length := by
        have := (List.getElem?_eq_some_iff.mp ha).1
        simp at this; omega
      subst hi'
      rw [List.getElem?_append_right (Nat.le_refl _)] at ha
      rw [h.len, List.getElem?_append_right (Nat.le_refl _)] at ho
      simp at ha ho
      subst ha ho
      exact r
  · obtain ⟨n, u, f, k⟩ := h.bz b hb
    refine ⟨fun q => ?_, u, by rw [upd_ne (ne_of_none f hp)]; exact f, k⟩
    rcases List.mem_append.mp q with q | q
    · exact n q
    · have e : b = p := by simpa using q
      rw [e] at hb
      exact hn.2 hb
/-- a thing changes -/
theorem ne_mem {b : Addr} {i : Nat} (ha : w.io[i]? = some a) (m : b ∉ w.io) : b ≠ a := fun q => by
  subst q
  exact m (List.mem_of_getElem? ha)
theorem ix_nd {α : Type} {N : List α} (hN : N.Nodup) {i j : Nat} {x : α} (a : N[i]? = some x) (b : N[j]? = some x) : i = j := by
  obtain ⟨h1, e1⟩ := List.getElem?_eq_some_iff.mp a
  obtain ⟨h2, e2⟩ := List.getElem?_eq_some_iff.mp b
  exact (List.getElem_inj hN).mp (e1.trans e2.symm)
/-- no locked thing stands there -/
def Nf (H : Hp) (a : Addr) : Prop := ∀ od u, H a ≠ some (.frz od u)
theorem nf_lst {xs : List V} (h : H a = some (.lst xs)) : Nf H a := fun _ _ e => by rw [h] at e; cases e
theorem nf_dK {xs : List (Key × V)} (h : H a = some (.dK xs)) : Nf H a := fun _ _ e => by rw [h] at e; cases e
theorem nf_dT {xs : List (List Key × V)} (h : H a = some (.dT xs)) : Nf H a := fun _ _ e => by rw [h] at e; cases e
theorem nf_ins {C dx : Addr} {xs : List (Str × V)} (h : H a = some (.ins C dx xs)) : Nf H a := fun _ _ e => by rw [h] at e; cases e
theorem Mv.write {i : Nat} (ha : w.io[i]? = some a) : Mv w H w (upd H a o) := ⟨⟨[], by simp⟩, fun b u h _ m n => ⟨by rw [upd_ne (ne_mem ha m)]; exact h, m, n⟩⟩
theorem Ext.write {i : Nat} {η : Store} (ha : w.io[i]? = some a) (hf : Nf H a) (hr : HeapRel K w H η) : Ext w H w (upd H a o) :=
  ⟨Mv.write ha, fun b hb => ⟨hb, by rw [upd_ne (ne_mem ha (hr.bz b hb).1)]⟩, fun b od u h => by
    rw [upd_ne]
    · exact h
    · intro q; subst q; exact hf _ _ h⟩
theorem HeapRel.write {η : Store} {ob : O} {i : Nat} (h : HeapRel K w H η) (ha : w.io[i]? = some a) (r : RepO K w (upd H a o) a ob) : HeapRel K w (upd H a o) (η.set i ob) := by
  have e : Mv w H w (upd H a o) := Mv.write ha
  obtain ⟨u0, f0, k0⟩ := h.trkN (List.mem_of_getElem? ha)
  refine ⟨by simp [h.len], h.nd, fun j b ob' hb ho => ?_, fun b hb => ?_, tabs_upd h.tb f0 k0⟩
  · by_cases hj : j = i
    · subst hj
      rw [ha] at hb; cases hb
      have hl : j < η.length := h.len ▸ (List.getElem?_eq_some_iff.mp ha).1
      rw [List.getElem?_set_self hl] at ho
      cases ho
      exact r
    · rw [List.getElem?_set_ne (Ne.symm hj)] at ho
      refine (h.at_ j b ob' hb ho).mv e (upd_ne fun q => hj ?_)
      subst q
      exact ix_nd h.nd hb ha
  · obtain ⟨n, u, f, k⟩ := h.bz b hb
    exact ⟨n, u, by rw [upd_ne (ne_mem ha n)]; exact f, k⟩
structure EnvRel (K : PySem.W.Frag) (w : Wd) (σ : L2.St) (H : Hp) (ρ : Env) : Prop where
  len : ρ.length = σ.length
  at_ : ∀ (i : Nat) (d : D), ρ[i]? = some (some d) → ∃ v, σ[i]? = some (some v) ∧ RepV K w H v d
theorem EnvRel.mv {σ : L2.St} {ρ : Env} (e : Mv w H w' H') (h : EnvRel K w σ H ρ) : EnvRel K w' σ H' ρ :=
  ⟨h.len, fun i d q => let ⟨v, a, b⟩ := h.at_ i d q; ⟨v, a, b.mv e⟩⟩
theorem EnvRel.ext {σ : L2.St} {ρ : Env} (e : Ext w H w' H') (h : EnvRel K w σ H ρ) : EnvRel K w' σ H' ρ :=
  ⟨h.len, fun i d q => let ⟨v, a, b⟩ := h.at_ i d q; ⟨v, a, b.ext e⟩⟩
theorem EnvRel.set {σ : L2.St} {ρ : Env} {i : Nat} (h : EnvRel K w σ H ρ) (r : RepV K w H v d) : EnvRel K w (σ.set i (some v)) H (ρ.set i (some d)) := by
  refine ⟨by simp [h.len], fun j e q => ?_⟩
  by_cases hj : j = i
  · subst hj
    by_cases hl : j < ρ.length
    · rw [List.getElem?_set_self hl] at q
      cases q
      exact ⟨v, List.getElem?_set_self (h.len ▸ hl), r⟩
    · rw [List.getElem?_eq_none (by simpa using hl)] at q; cases q
  · rw [List.getElem?_set_ne (Ne.symm hj)] at q
    obtain ⟨u, a, b⟩ := h.at_ j e q
    exact ⟨u, by rw [List.getElem?_set_ne (Ne.symm hj)]; exact a, b⟩
structure Rel (K : PySem.W.Frag) (w : Wd) (σ : L2.St) (H : Hp) (ρ : Env) (η : Store) : Prop where
  env : EnvRel K w σ H ρ
  heap : HeapRel K w H η
end

/-! ### answers -/
/-- an error: its class by name, its fields (none: a class without own __init__) -/
structure Ex where
  cls : Str
  fs : Option (List (Str × D))
inductive R (α : Type) where
  | ok (a : α) (η : Store)
  | exc (x : Ex) (η : Store)
  | no
inductive RS where
  | nx (ρ : Env) (η : Store)
  | ret (d : D) (η : Store)
  | brk (ρ : Env) (η : Store)
  | cnt (ρ : Env) (η : Store)
  | exc (x : Ex) (ρ : Env) (η : Store)
  | no
def R.bind {α β : Type} (r : R α) (k : α → Store → R β) : R β := match r with
  | .ok a η => k a η
  | .exc x η => .exc x η
  | .no => .no
def R.bindS {α : Type} (r : R α) (ρ : Env) (k : α → Store → RS) : RS := match r with
  | .ok a η => k a η
  | .exc x η => .exc x ρ η
  | .no => .no
def liftO {α : Type} : Option (α × Store) → R α
  | some (a, η) => .ok a η
  | none => .no
@[simp] theorem R.bind_ok {α β : Type} {a : α} {η : Store} {k : α → Store → R β} : (R.ok a η).bind k = k a η := rfl
@[simp] theorem R.bind_exc {α β : Type} {x : Ex} {η : Store} {k : α → Store → R β} : (R.exc x η : R α).bind k = .exc x η := rfl
@[simp] theorem R.bind_no {α β : Type} {k : α → Store → R β} : (R.no : R α).bind k = .no := rfl
@[simp] theorem R.bindS_ok {α : Type} {a : α} {η : Store} {ρ : Env} {k : α → Store → RS} : (R.ok a η).bindS ρ k = k a η := rfl
@[simp] theorem R.bindS_exc {α : Type} {x : Ex} {η : Store} {ρ : Env} {k : α → Store → RS} : (R.exc x η : R α).bindS ρ k = .exc x ρ η := rfl
@[simp] theorem R.bindS_no {α : Type} {ρ : Env} {k : α → Store → RS} : (R.no : R α).bindS ρ k = .no := rfl
@[simp] theorem liftO_some {α : Type} {p : α × Store} : liftO (some p) = .ok p.1 p.2 := rfl
@[simp] theorem liftO_none {α : Type} : liftO (none : Option (α × Store)) = .no := rfl

def RepX (K : PySem.W.Frag) (w : Wd) (H : Hp) (c : Value) (d : Option Addr) (x : Ex) : Prop := c = .ref (He.ga K x.cls) ∧
  match x.fs with
  | none => d = none
  | some fs => ∃ a xs, d = some a ∧ H a = some (.xd xs) ∧ a ∉ w.io ∧ RepF K w H xs fs
abbrev Rp (α β : Type) := Wd → Hp → β → α → Prop
def Post {α β : Type} (K : PySem.W.Frag) (rep : Rp α β) (w : Wd) (H : Hp) (Q : β → Hp → Prop) (W : XK) : R α → Prop
  | .ok a η => ∀ v w' H', Ext w H w' H' → HeapRel K w' H' η → rep w' H' v a → Q v H'
  | .exc x η => ∀ c d w' H', Ext w H w' H' → HeapRel K w' H' η → RepX K w' H' c d x → W c d H'
  | .no => False
def PostS (K : PySem.W.Frag) (w : Wd) (H : Hp) (E : Ends) (W : WX) : RS → Prop
  | .nx ρ η => ∀ σ w' H', Ext w H w' H' → Rel K w' σ H' ρ η → E.nx σ H'
  | .ret d η => ∀ v w' H', Ext w H w' H' → HeapRel K w' H' η → RepV K w' H' v d → E.rt v H'
  | .brk ρ η => ∀ σ w' H', Ext w H w' H' → Rel K w' σ H' ρ η → E.bk σ H'
  | .cnt ρ η => ∀ σ w' H', Ext w H w' H' → Rel K w' σ H' ρ η → E.ct σ H'
  | .exc x ρ η => ∀ c d σ w' H', Ext w H w' H' → Rel K w' σ H' ρ η → RepX K w' H' c d x → W c d σ H'
  | .no => False
section
variable {α β γ δ : Type} {K : PySem.W.Frag} {w w1 : Wd} {H H1 : Hp} {rep : Rp α β} {rep2 : Rp γ δ} {Q Q' : β → Hp → Prop} {Q2 : δ → Hp → Prop} {W W' : XK} {r : R α} {k : α → Store → R γ} {E : Ends} {WS : WX}
theorem Post.weak (e : Ext w H w1 H1) (h : Post K rep w H Q W r) : Post K rep w1 H1 Q W r := by
  cases r with
  | ok a η => exact fun v w' H' e' => h v w' H' (e.trans e')
  | exc x η => exact fun c d w' H' e' => h c d w' H' (e.trans e')
  | no => exact h
theorem Post.imp (m : ∀ v H, Q v H → Q' v H) (h : Post K rep w H Q W r) : Post K rep w H Q' W r := by
  cases r with
  | ok a η => exact fun v w' H' e' hr rp => m _ _ (h v w' H' e' hr rp)
  | exc x η => exact h
  | no => exact h
theorem Post.bind (h : Post K rep2 w H Q2 W (r.bind k)) : Post K rep w H (fun v H1 => ∃ w1 a η1, Ext w H w1 H1 ∧ HeapRel K w1 H1 η1 ∧ rep w1 H1 v a ∧ Post K rep2 w1 H1 Q2 W (k a η1)) W r := by
  cases r with
  | ok a η => exact fun v w' H' e' hr rp => ⟨w', a, η, e', hr, rp, h.weak e'⟩
  | exc x η => exact h
  | no => exact h
theorem Post.lift {o : Option (α × Store)} (h : Post K rep w H Q W (liftO o)) : Post K rep w H Q W' (liftO o) := by
  cases o with
  | none => exact h
  | some p => exact h
theorem PostS.weak {r : RS} (e : Ext w H w1 H1) (h : PostS K w H E WS r) : PostS K w1 H1 E WS r := by
  cases r with
  | nx ρ η => exact fun σ w' H' e' => h σ w' H' (e.trans e')
  | brk ρ η => exact fun σ w' H' e' => h σ w' H' (e.trans e')
  | cnt ρ η => exact fun σ w' H' e' => h σ w' H' (e.trans e')
  | ret d η => exact fun v w' H' e' => h v w' H' (e.trans e')
  | exc x ρ η => exact fun c d σ w' H' e' => h c d σ w' H' (e.trans e')
  | no => exact h
theorem PostS.bind {σ : L2.St} {ρ : Env} {kS : α → Store → RS} (env : EnvRel K w σ H ρ) (h : PostS K w H E WS (r.bindS ρ kS)) :
    Post K rep w H (fun v H1 => ∃ w1 a η1, Ext w H w1 H1 ∧ Rel K w1 σ H1 ρ η1 ∧ rep w1 H1 v a ∧ PostS K w1 H1 E WS (kS a η1)) (fun c d H' => WS c d σ H') r := by
  cases r with
  | ok a η => exact fun v w' H' e' hr rp => ⟨w', a, η, e', ⟨env.ext e', hr⟩, rp, h.weak e'⟩
  | exc x η => exact fun c d w' H' e' hr rx => h c d σ w' H' e' ⟨env.ext e', hr⟩ rx
  | no => exact h
end

/-! ### judgements -/
abbrev FE := Env → Store → R D
abbrev FT := Env → Store → R Bool
abbrev FA := Env → Store → R (List D)
abbrev FS := Env → Store → RS
def rdE (K : PySem.W.Frag) (W : WX) (f : FE) : TE := fun σ H Q => ∃ w ρ η, Rel K w σ H ρ η ∧ Post K (RepV K) w H Q (fun c d H' => W c d σ H') (f ρ η)
def rdT (K : PySem.W.Frag) (W : WX) (f : FT) : TT := fun σ H Q => ∃ w ρ η, Rel K w σ H ρ η ∧ Post K (fun _ _ (b c : Bool) => b = c) w H Q (fun c d H' => W c d σ H') (f ρ η)
def rdA (K : PySem.W.Frag) (W : WX) (f : FA) : TA := fun σ H Q => ∃ w ρ η, Rel K w σ H ρ η ∧ Post K (RepVs K) w H Q (fun c d H' => W c d σ H') (f ρ η)
def rdS (K : PySem.W.Frag) (W : WX) (f : FS) : TS := fun E σ H => ∃ w ρ η, Rel K w σ H ρ η ∧ PostS K w H E W (f ρ η)
abbrev DE (X : Cx) (W : WX) (e : Expr) (f : FE) : Prop := PE X e (rdE X.K W f)
abbrev DT (X : Cx) (W : WX) (e : Expr) (f : FT) : Prop := PT X e (rdT X.K W f)
abbrev DW (X : Cx) (W : WX) (e : Expr) (f : FT) : Prop := PW X e (rdT X.K W f)
abbrev DA (X : Cx) (W : WX) (es : List Expr) (f : FA) : Prop := PA X es (rdA X.K W f)
abbrev DS (X : Cx) (W : WX) (s : Stmt) (f : FS) : Prop := PS X s (rdS X.K W f)
abbrev DSs (X : Cx) (W : WX) (s : List Stmt) (f : FS) : Prop := PSs X s (rdS X.K W f)
section
variable {X : Cx} {e : Expr} {es : List Expr} {s : Stmt} {ss : List Stmt}
theorem PE.imp {t t' : TE} (h : PE X e t) (m : ∀ σ H Q, t' σ H Q → t σ H Q) : PE X e t' := ⟨fun pins s σ H Q I q => h.run pins s σ H Q I (m σ H Q q)⟩
theorem PT.imp {t t' : TT} (h : PT X e t) (m : ∀ σ H Q, t' σ H Q → t σ H Q) : PT X e t' := ⟨fun pins s σ H Q I q => h.run pins s σ H Q I (m σ H Q q)⟩
theorem PW.imp {t t' : TT} (h : PW X e t) (m : ∀ σ H Q, t' σ H Q → t σ H Q) : PW X e t' := ⟨fun wh pins s σ H Q I q => h.run wh pins s σ H Q I (m σ H Q q)⟩
theorem PA.imp {t t' : TA} (h : PA X es t) (m : ∀ σ H Q, t' σ H Q → t σ H Q) : PA X es t' := ⟨fun pos pins s σ H Q I q => h.run pos pins s σ H Q I (m σ H Q q)⟩
theorem PS.imp {t t' : TS} (h : PS X s t) (m : ∀ E σ H, t' E σ H → t E σ H) : PS X s t' := ⟨fun pins s σ H D I q => h.run pins s σ H D I (m D σ H q)⟩
theorem PSs.imp {t t' : TS} (h : PSs X ss t) (m : ∀ E σ H, t' E σ H → t E σ H) : PSs X ss t' := ⟨fun pins s σ H D I q => h.run pins s σ H D I (m D σ H q)⟩
end
end Dn
/-! Dn part 2: expressions, calls. -/
namespace Dn
open PySem PySem.Spec PyProof.Rows L2
section
variable {α β γ δ : Type} {X : Cx} {W : WX} {K : PySem.W.Frag} {w w1 w' : Wd} {σ : L2.St} {H H1 H' : Hp} {ρ : Env} {η η1 : Store} {fa fb fc f : FE} {a b c e : Expr} {es : List Expr} {pos p : Pos}
/-! ### wishes grow -/
theorem rdE.imp {Q Q' : VK} (m : ∀ v H, Q v H → Q' v H) (h : rdE K W f σ H Q) : rdE K W f σ H Q' :=
  let ⟨w, ρ, η, r, p⟩ := h; ⟨w, ρ, η, r, p.imp m⟩
/-- one expression, then more -/
theorem rdE_then {rep : Rp γ δ} {Q : δ → Hp → Prop} {k : D → Store → R γ} (rel : Rel K w σ H ρ η) (h : Post K rep w H Q (fun c d H' => W c d σ H') ((fa ρ η).bind k)) :
    rdE K W fa σ H fun v H1 => ∃ w1 d η1, Ext w H w1 H1 ∧ Rel K w1 σ H1 ρ η1 ∧ RepV K w1 H1 v d ∧ Post K rep w1 H1 Q (fun c d H' => W c d σ H') (k d η1) :=
  ⟨w, ρ, η, rel, (Post.bind (rep := RepV K) h).imp fun v H1 ⟨w1, d, η1, e, hr, rv, p⟩ => ⟨w1, d, η1, e, ⟨rel.env.ext e, hr⟩, rv, p⟩⟩
theorem rdT_then {rep : Rp γ δ} {Q : δ → Hp → Prop} {ft : FT} {k : Bool → Store → R γ} (rel : Rel K w σ H ρ η) (h : Post K rep w H Q (fun c d H' => W c d σ H') ((ft ρ η).bind k)) :
    rdT K W ft σ H fun b H1 => ∃ w1 η1, Ext w H w1 H1 ∧ Rel K w1 σ H1 ρ η1 ∧ Post K rep w1 H1 Q (fun c d H' => W c d σ H') (k b η1) :=
  ⟨w, ρ, η, rel, (Post.bind (rep := fun _ _ (b c : Bool) => b = c) h).imp fun v H1 ⟨w1, d, η1, e, hr, rv, p⟩ => ⟨w1, η1, e, ⟨rel.env.ext e, hr⟩, by subst rv; exact p⟩⟩
theorem rdA_then {rep : Rp γ δ} {Q : δ → Hp → Prop} {fA : FA} {k : List D → Store → R γ} (rel : Rel K w σ H ρ η) (h : Post K rep w H Q (fun c d H' => W c d σ H') ((fA ρ η).bind k)) :
    rdA K W fA σ H fun vs H1 => ∃ w1 ds η1, Ext w H w1 H1 ∧ Rel K w1 σ H1 ρ η1 ∧ RepVs K w1 H1 vs ds ∧ Post K rep w1 H1 Q (fun c d H' => W c d σ H') (k ds η1) :=
  ⟨w, ρ, η, rel, (Post.bind (rep := RepVs K) h).imp fun v H1 ⟨w1, d, η1, e, hr, rv, p⟩ => ⟨w1, d, η1, e, ⟨rel.env.ext e, hr⟩, rv, p⟩⟩

/-! ### names, constants -/
def gv (i : Nat) : FE := fun ρ η => match ρ[i]? with
  | some (some d) => .ok d η
  | _ => .no
theorem de_v (i : Nat) {x : Str} (hN : X.N[i]? = some x := by rfl) (hv : Vis X.env.scope x := by first | exact Or.inl rfl | exact Or.inr (Or.inl rfl) | exact Or.inr (Or.inr rfl))
    (hd : (x == ("__debug__" : Str)) = false := by decide) (hcd : (x == ("__classdict__" : Str)) = false := by decide) : DE X W (.Name x pos) (gv i) :=
  PE.imp (pe_var hN hv hd hcd) fun σ H Q ⟨w, ρ, η, rel, p⟩ => by
    unfold gv at p
    split at p
    · rename_i d e
      obtain ⟨v, e1, r⟩ := rel.env.at_ i d e
      exact ⟨v, e1, p v w H .refl rel.heap r⟩
    · exact p.elim
def cst (d : D) : FE := fun _ η => .ok d η
theorem de_cst {t : TE} {v : V} {d : D} (h : PE X e t) (m : ∀ σ H (Q : VK), Q v H → t σ H Q) (r : ∀ w H, RepV X.K w H v d) : DE X W e (cst d) :=
  PE.imp h fun σ H Q ⟨w, ρ, η, rel, p⟩ => m σ H Q (p v w H .refl rel.heap (r w H))
theorem de_int {i j} : DE X W (.Constant (.int i) j pos) (cst (.int i)) := de_cst pe_int (fun _ _ _ h => h) fun _ _ => .int i
theorem de_str {x j} : DE X W (.Constant (.str x) j pos) (cst (.str x)) := de_cst pe_str (fun _ _ _ h => h) fun _ _ => .str x
theorem de_bl {b j} : DE X W (.Constant (.bool b) j pos) (cst (.bl b)) := de_cst pe_bl (fun _ _ _ h => h) fun _ _ => .bl b
theorem de_non {j} : DE X W (.Constant .none j pos) (cst .non) := de_cst pe_non (fun _ _ _ h => h) fun _ _ => .non
/-- a module's int -/
theorem de_gint {x : Str} {i : Int} (hm : ∃ t, X.mg x = some (.int i t)) (hg : Gl X x := by rfl) (hd : (x == ("__debug__" : Str)) = false := by decide) : DE X W (.Name x pos) (cst (.int i)) := by
  obtain ⟨t, hm⟩ := hm
  exact de_cst (pe_glob hg hm (v := .int i) ⟨t, rfl⟩ hd) (fun _ _ _ h => h) fun _ _ => .int i
theorem de_gstr {x z : Str} (hm : ∃ t, X.mg x = some (.str z t)) (hg : Gl X x := by rfl) (hd : (x == ("__debug__" : Str)) = false := by decide) : DE X W (.Name x pos) (cst (.str z)) := by
  obtain ⟨t, hm⟩ := hm
  exact de_cst (pe_glob hg hm (v := .str z) ⟨t, rfl⟩ hd) (fun _ _ _ h => h) fun _ _ => .str z
/-- a module's def, class -/
theorem de_gl {x : Str} (hm : X.mg x = some (.ref (He.ga X.K x))) (hg : Gl X x := by rfl) (hd : (x == ("__debug__" : Str)) = false := by decide) : DE X W (.Name x pos) (cst (.gl x)) :=
  de_cst (pe_glob hg hm (v := .ref (He.ga X.K x)) rfl hd) (fun _ _ _ h => h) fun _ _ => .gl x
/-- a built-in type as a value -/
theorem de_ty {x : Str} {n : String} (hm : X.mg x = none) (hv : bootBuiltins x = some (.type n)) (hg : Gl X x := by rfl) (hn : x ≠ "__name__" := by decide) (hd : (x == ("__debug__" : Str)) = false := by decide) : DE X W (.Name x pos) (cst (.ty n)) :=
  de_cst (pe_bltn hg hm hv (v := .ty n) rfl hn hd) (fun _ _ _ h => h) fun _ _ => .ty n

/-! ### operations on values -/
abbrev G1 := D → Store → Option (D × Store)
abbrev G2 := D → D → Store → Option (D × Store)
abbrev GL := List D → Store → Option (D × Store)
def rd1 (K : PySem.W.Frag) (g : G1) : V → Hp → VK → Prop := fun x H Q => ∃ w η d, HeapRel K w H η ∧ RepV K w H x d ∧ Post K (RepV K) w H Q (fun _ _ _ => False) (liftO (g d η))
def rd2 (K : PySem.W.Frag) (g : G2) : R2 := fun x y H Q => ∃ w η d1 d2, HeapRel K w H η ∧ RepV K w H x d1 ∧ RepV K w H y d2 ∧ Post K (RepV K) w H Q (fun _ _ _ => False) (liftO (g d1 d2 η))
def rdL (K : PySem.W.Frag) (g : GL) : List V → Hp → VK → Prop := fun xs H Q => ∃ w η ds, HeapRel K w H η ∧ RepVs K w H xs ds ∧ Post K (RepV K) w H Q (fun _ _ _ => False) (liftO (g ds η))
def rdM (K : PySem.W.Frag) (g : D → GL) : V → List V → Hp → VK → Prop := fun x xs H Q => ∃ w η d ds, HeapRel K w H η ∧ RepV K w H x d ∧ RepVs K w H xs ds ∧ Post K (RepV K) w H Q (fun _ _ _ => False) (liftO (g d ds η))
def e1 (g : G1) (fa : FE) : FE := fun ρ η => (fa ρ η).bind fun x η => liftO (g x η)
def e2 (g : G2) (fa fb : FE) : FE := fun ρ η => (fa ρ η).bind fun x η => (fb ρ η).bind fun y η => liftO (g x y η)
def eL (g : GL) (fA : FA) : FE := fun ρ η => (fA ρ η).bind fun xs η => liftO (g xs η)
def eM (g : D → GL) (fa : FE) (fA : FA) : FE := fun ρ η => (fa ρ η).bind fun x η => (fA ρ η).bind fun xs η => liftO (g x xs η)
theorem e1_reads {g : G1} {Q : VK} (h : rdE K W (e1 g fa) σ H Q) : tUn (rd1 K g) (rdE K W fa) σ H Q := by
  obtain ⟨w, ρ, η, rel, p⟩ := h
  exact (rdE_then rel p).imp fun v H1 ⟨w1, d, η1, e, rel1, rv, p1⟩ => ⟨w1, η1, d, rel1.heap, rv, p1.lift⟩
theorem e2_reads {g : G2} {Q : VK} (h : rdE K W (e2 g fa fb) σ H Q) : tOp (rd2 K g) (rdE K W fa) (rdE K W fb) σ H Q := by
  obtain ⟨w, ρ, η, rel, p⟩ := h
  refine (rdE_then rel p).imp fun v H1 ⟨w1, d, η1, e, rel1, rv, p1⟩ => ?_
  exact (rdE_then rel1 p1).imp fun u H2 ⟨w2, d2, η2, e2, rel2, rv2, p2⟩ => ⟨w2, η2, d, d2, rel2.heap, rv.ext e2, rv2, p2.lift⟩
theorem eL_reads {g : GL} {fA : FA} {Q : VK} (h : rdE K W (eL g fA) σ H Q) : tCB (rdL K g) (rdA K W fA) σ H Q := by
  obtain ⟨w, ρ, η, rel, p⟩ := h
  obtain ⟨w, ρ, η, rel, q⟩ := rdA_then rel p
  exact ⟨w, ρ, η, rel, q.imp fun v H1 ⟨w1, d, η1, e, rel1, rv, p1⟩ => ⟨w1, η1, d, rel1.heap, rv, p1.lift⟩⟩
theorem de_un {op : UnaryOp} {g : G1} (ho : UnR X (unaryOp op) (rd1 X.K g)) (ha : DE X W a fa) : DE X W (.UnaryOp op a pos) (e1 g fa) := PE.imp (pe_un ho ha) fun _ _ _ => e1_reads
theorem de_op {op : Operator} {g : G2} (ho : OpR X (binaryOp op) (rd2 X.K g)) (ha : DE X W a fa) (hb : DE X W b fb) : DE X W (.BinOp a op b pos) (e2 g fa fb) := PE.imp (pe_op ho ha hb) fun _ _ _ => e2_reads
theorem de_cmp {op : CmpOp} {g : G2} (ho : OpR X (compareOp op) (rd2 X.K g)) (ha : DE X W a fa) (hb : DE X W b fb) (hm : behindInMarks op b = false := by first | exact nomark _ | rfl) : DE X W (.Compare a [op] [b] pos) (e2 g fa fb) :=
  PE.imp (pe_cmpR ho ha hb hm) fun _ _ _ => e2_reads
def chn (g g' : G2) (fa fb fc : FE) : FE := fun ρ η => (fa ρ η).bind fun x η => (fb ρ η).bind fun y η => (liftO (g x y η)).bind fun z η => match z with
  | .bl true => (fc ρ η).bind fun u η => liftO (g' y u η)
  | .bl false => .ok (.bl false) η
  | _ => .no
theorem de_chain {op op' : CmpOp} {g g' : G2} (ho : OpR X (compareOp op) (rd2 X.K g)) (ho' : OpR X (compareOp op') (rd2 X.K g')) (ha : DE X W a fa) (hb : DE X W b fb) (hc : DE X W c fc)
    (hm : lastMarks [op, op'] [b, c] = false := by with_unfolding_all rfl) : DE X W (.Compare a [op, op'] [b, c] pos) (chn g g' fa fb fc) :=
  PE.imp (pe_chain ho ho' ha hb hc hm) fun σ H Q ⟨w, ρ, η, rel, p⟩ => by
    refine (rdE_then rel p).imp fun v H1 ⟨w1, d, η1, e, rel1, rv, p1⟩ => ?_
    refine (rdE_then rel1 p1).imp fun u H2 ⟨w2, d2, η2, e2, rel2, rv2, p2⟩ => ?_
    refine ⟨w2, η2, d, d2, rel2.heap, rv.ext e2, rv2, ((Post.bind (rep := RepV X.K) p2).imp fun z H3 ⟨w3, dz, η3, e3, hr3, rz, p3⟩ => ?_).lift⟩
    have rel3 : Rel X.K w3 σ H3 ρ η3 := ⟨rel2.env.ext e3, hr3⟩
    cases rz with
    | bl k =>
      cases k with
      | true =>
        refine ⟨true, rfl, iteT ?_⟩
        exact (rdE_then rel3 p3).imp fun t H4 ⟨w4, d4, η4, e4, rel4, rv4, p4⟩ => ⟨w4, η4, d2, d4, rel4.heap, (rv2.ext e3).ext e4, rv4, p4.lift⟩
      | false => exact ⟨false, rfl, iteF (p3 _ _ _ .refl hr3 (.bl false))⟩
    | _ => exact p3.elim

/-! ### truth -/
def truD : D → Store → Option Bool
  | .non, _ => some false
  | .bl b, _ => some b
  | .int i, _ => some (i != 0)
  | .str x, _ => if x.length ≤ sizeLine then some ((x.length : Int) != 0) else none
  | .tup xs, _ => some (!xs.isEmpty)
  | .lst xs, _ => some (!xs.isEmpty)
  | .scr xs, _ => some (!xs.isEmpty)
  | .obj i, η => match η[i]? with
    | some (.lst xs) => some (!xs.isEmpty)
    | some (.dK kvs) => some (!kvs.isEmpty)
    | _ => none
  | _, _ => none
theorem isE {α β : Type} {xs : List α} {ys : List β} (h : xs.length = ys.length) : xs.isEmpty = ys.isEmpty := by
  cases xs <;> cases ys <;> simp_all
theorem truD_ok {v : V} {d : D} {k : Bool} (hr : HeapRel K w H η) (rv : RepV K w H v d) (h : truD d η = some k) : TruV K v H k := by
  cases rv with
  | non => cases h; rfl
  | bl b => cases h; rfl
  | int i => cases h; rfl
  | str x =>
    dsimp only [truD] at h
    split at h
    · rename_i hl; cases h; exact ⟨hl, rfl⟩
    · cases h
  | tup s r => cases h; exact .inr (.inl ⟨_, s.sq, by rw [isE r.length]⟩)
  | lst s r => cases h; exact .inl ⟨_, s.sq, by rw [isE r.length]⟩
  | scr s r => cases h; exact .inl ⟨_, s.sq, by rw [isE r.length]⟩
  | obj ha =>
    rename_i i a
    dsimp only [truD] at h
    split at h
    · rename_i xs eo
      cases h
      obtain ⟨ys, e, r⟩ := hr.at_ _ _ _ ha eo
      exact .inl ⟨_, SqL.of e, by rw [isE r.length]⟩
    · rename_i kvs eo
      cases h
      obtain ⟨ys, e, r⟩ := hr.at_ _ _ _ ha eo
      refine .inr (.inr ⟨_, e, ?_⟩)
      have : ys.length = kvs.length := by simpa using congrArg List.length r.1
      rw [isE this]
    · cases h
  | gl x => cases h
  | ty n => cases h
  | adr a => cases h
def tru (f : FE) : FT := fun ρ η => (f ρ η).bind fun d η => match truD d η with
  | some b => .ok b η
  | none => .no
/-- a value's truth as a test -/
theorem dt_tru (ha : DE X W a fa) (he : ∀ whole, isTrue a X.env whole = (do let v ← whole; standAt a.pos; holding [v] (truthy v)) := by intro _; rfl) : DT X W a (tru fa) :=
  PT.imp (pt_truth ha he) fun σ H Q ⟨w, ρ, η, rel, p⟩ => by
    refine (rdE_then rel p).imp fun v H1 ⟨w1, d, η1, e, rel1, rv, p1⟩ => ?_
    split at p1
    · rename_i k ek
      exact ⟨k, truD_ok rel1.heap rv ek, p1 k w1 H1 .refl rel1.heap rfl⟩
    · exact p1.elim
/-- a comparison as a test -/
def tst (f : FE) : FT := fun ρ η => (f ρ η).bind fun d η => match d with
  | .bl b => .ok b η
  | _ => .no
theorem tst_reads {Q : Bool → Hp → Prop} {t : TE} (h : rdT K W (tst f) σ H Q) (m : ∀ Q, rdE K W f σ H Q → t σ H Q) : tTest t σ H Q := by
  obtain ⟨w, ρ, η, rel, p⟩ := h
  refine m _ ((rdE_then rel p).imp fun v H1 ⟨w1, d, η1, e, rel1, rv, p1⟩ => ?_)
  cases rv with
  | bl k => exact ⟨k, rfl, p1 k w1 H1 .refl rel1.heap rfl⟩
  | _ => exact p1.elim
theorem dt_cmp {op : CmpOp} {g : G2} (ho : OpR X (compareOp op) (rd2 X.K g)) (ha : DE X W a fa) (hb : DE X W b fb) (hm : behindInMarks op b = false := by first | exact nomark _ | rfl) : DT X W (.Compare a [op] [b] pos) (tst (e2 g fa fb)) :=
  PT.imp (pt_cmpR ho ha hb hm) fun _ _ _ h => tst_reads h fun _ => e2_reads
theorem dt_chain {op op' : CmpOp} {g g' : G2} (ho : OpR X (compareOp op) (rd2 X.K g)) (ho' : OpR X (compareOp op') (rd2 X.K g')) (ha : DE X W a fa) (hb : DE X W b fb) (hc : DE X W c fc)
    (hm : lastMarks [op, op'] [b, c] = false := by with_unfolding_all rfl) : DT X W (.Compare a [op, op'] [b, c] pos) (tst (chn g g' fa fb fc)) :=
  PT.imp (pt_chain ho ho' ha hb hc hm) fun _ _ _ h => tst_reads h fun Q hq => by
    obtain ⟨w, ρ, η, rel, p⟩ := hq
    refine (rdE_then rel p).imp fun v H1 ⟨w1, d, η1, e, rel1, rv, p1⟩ => ?_
    refine (rdE_then rel1 p1).imp fun u H2 ⟨w2, d2, η2, e2, rel2, rv2, p2⟩ => ?_
    refine ⟨w2, η2, d, d2, rel2.heap, rv.ext e2, rv2, ((Post.bind (rep := RepV X.K) p2).imp fun z H3 ⟨w3, dz, η3, e3, hr3, rz, p3⟩ => ?_).lift⟩
    have rel3 : Rel X.K w3 _ H3 ρ η3 := ⟨rel2.env.ext e3, hr3⟩
    cases rz with
    | bl k =>
      cases k with
      | true =>
        refine ⟨true, rfl, iteT ?_⟩
        exact (rdE_then rel3 p3).imp fun t H4 ⟨w4, d4, η4, e4, rel4, rv4, p4⟩ => ⟨w4, η4, d2, d4, rel4.heap, (rv2.ext e3).ext e4, rv4, p4.lift⟩
      | false => exact ⟨false, rfl, iteF (p3 _ _ _ .refl hr3 (.bl false))⟩
    | _ => exact p3.elim
/-! ### and, or, not -/
def andT (s t : FT) : FT := fun ρ η => (s ρ η).bind fun b η => if b = true then t ρ η else .ok false η
def orT (s t : FT) : FT := fun ρ η => (s ρ η).bind fun b η => if b = true then .ok true η else t ρ η
def notT (s : FT) : FT := fun ρ η => (s ρ η).bind fun b η => .ok (!b) η
variable {s t : FT} {rest : List Expr}
theorem dw_and1 (ha : DT X W a s) : DW X W (.BoolOp .And [a] pos) s := pw_and1 ha
theorem dw_or1 (ha : DT X W a s) : DW X W (.BoolOp .Or [a] pos) s := pw_or1 ha
theorem dw_and (ha : DT X W a s) (hb : DW X W (.BoolOp .And (b :: rest) pos) t) : DW X W (.BoolOp .And (a :: b :: rest) pos) (andT s t) :=
  PW.imp (pw_and ha hb) fun σ H Q ⟨w, ρ, η, rel, p⟩ => by
    obtain ⟨w, ρ, η, rel, q⟩ := rdT_then rel p
    refine ⟨w, ρ, η, rel, q.imp fun c H1 ⟨w1, η1, e, rel1, p1⟩ => ?_⟩
    cases c with
    | true => exact iteT ⟨w1, _, η1, rel1, p1⟩
    | false => exact iteF (p1 _ w1 H1 .refl rel1.heap rfl)
theorem dw_or (ha : DT X W a s) (hb : DW X W (.BoolOp .Or (b :: rest) pos) t) : DW X W (.BoolOp .Or (a :: b :: rest) pos) (orT s t) :=
  PW.imp (pw_or ha hb) fun σ H Q ⟨w, ρ, η, rel, p⟩ => by
    obtain ⟨w, ρ, η, rel, q⟩ := rdT_then rel p
    refine ⟨w, ρ, η, rel, q.imp fun c H1 ⟨w1, η1, e, rel1, p1⟩ => ?_⟩
    cases c with
    | false => exact iteF ⟨w1, _, η1, rel1, p1⟩
    | true => exact iteT (p1 _ w1 H1 .refl rel1.heap rfl)
theorem dt_w (h : DW X W a s) : DT X W a s := h.pt
theorem dt_not (ha : DT X W a s) : DT X W (.UnaryOp .Not a pos) (notT s) :=
  PT.imp (pt_not ha) fun σ H Q ⟨w, ρ, η, rel, p⟩ => by
    obtain ⟨w, ρ, η, rel, q⟩ := rdT_then rel p
    exact ⟨w, ρ, η, rel, q.imp fun c H1 ⟨w1, η1, e, rel1, p1⟩ => p1 _ w1 H1 .refl rel1.heap rfl⟩
/-- as values, by truth -/
def andE (fa fb : FE) : FE := fun ρ η => (fa ρ η).bind fun d η => match truD d η with
  | some true => fb ρ η
  | some false => .ok d η
  | none => .no
def orE (fa fb : FE) : FE := fun ρ η => (fa ρ η).bind fun d η => match truD d η with
  | some true => .ok d η
  | some false => fb ρ η
  | none => .no
def notE (fa : FE) : FE := fun ρ η => (fa ρ η).bind fun d η => match truD d η with
  | some b => .ok (.bl (!b)) η
  | none => .no
theorem de_one {op} (h : DE X W a fa) : DE X W (.BoolOp op [a] pos) fa := pe_one h
theorem de_and (ha : DE X W a fa) (hb : DE X W (.BoolOp .And (b :: rest) pos) fb) : DE X W (.BoolOp .And (a :: b :: rest) pos) (andE fa fb) :=
  PE.imp (pe_andT ha hb) fun σ H Q ⟨w, ρ, η, rel, p⟩ => by
    refine (rdE_then rel p).imp fun v H1 ⟨w1, d, η1, e, rel1, rv, p1⟩ => ?_
    split at p1
    · rename_i ek; exact ⟨true, truD_ok rel1.heap rv ek, iteT ⟨w1, _, η1, rel1, p1⟩⟩
    · rename_i ek; exact ⟨false, truD_ok rel1.heap rv ek, iteF (p1 v w1 H1 .refl rel1.heap rv)⟩
    · exact p1.elim
theorem de_or (ha : DE X W a fa) (hb : DE X W (.BoolOp .Or (b :: rest) pos) fb) : DE X W (.BoolOp .Or (a :: b :: rest) pos) (orE fa fb) :=
  PE.imp (pe_orT ha hb) fun σ H Q ⟨w, ρ, η, rel, p⟩ => by
    refine (rdE_then rel p).imp fun v H1 ⟨w1, d, η1, e, rel1, rv, p1⟩ => ?_
    split at p1
    · rename_i ek; exact ⟨true, truD_ok rel1.heap rv ek, iteT (p1 v w1 H1 .refl rel1.heap rv)⟩
    · rename_i ek; exact ⟨false, truD_ok rel1.heap rv ek, iteF ⟨w1, _, η1, rel1, p1⟩⟩
    · exact p1.elim
theorem de_not (ha : DE X W a fa) : DE X W (.UnaryOp .Not a pos) (notE fa) :=
  PE.imp (pe_notT ha) fun σ H Q ⟨w, ρ, η, rel, p⟩ => by
    refine (rdE_then rel p).imp fun v H1 ⟨w1, d, η1, e, rel1, rv, p1⟩ => ?_
    split at p1
    · rename_i k ek; exact ⟨k, truD_ok rel1.heap rv ek, p1 _ w1 H1 .refl rel1.heap (.bl _)⟩
    · exact p1.elim
def ifE (s : FT) (fa fb : FE) : FE := fun ρ η => (s ρ η).bind fun b η => if b = true then fa ρ η else fb ρ η
theorem de_if (hc : DT X W c s) (ha : DE X W a fa) (hb : DE X W b fb) : DE X W (.IfExp c a b pos) (ifE s fa fb) :=
  PE.imp (pe_ifExp hc ha hb) fun σ H Q ⟨w, ρ, η, rel, p⟩ => by
    obtain ⟨w, ρ, η, rel, q⟩ := rdT_then rel p
    refine ⟨w, ρ, η, rel, q.imp fun c H1 ⟨w1, η1, e, rel1, p1⟩ => ?_⟩
    cases c with
    | true => exact iteT ⟨w1, _, η1, rel1, p1⟩
    | false => exact iteF ⟨w1, _, η1, rel1, p1⟩

/-! ### arguments, displays -/
def aNil : FA := fun _ η => .ok [] η
def aCons (f : FE) (g : FA) : FA := fun ρ η => (f ρ η).bind fun d η => (g ρ η).bind fun ds η => .ok (d :: ds) η
variable {fA : FA}
theorem da_nil : DA X W [] aNil := PA.imp pa_nil fun σ H Q ⟨w, ρ, η, rel, p⟩ => p [] w H .refl rel.heap .nil
theorem da_cons (ha : DE X W e f) (hr : DA X W es fA) (hs : starEach (e :: es) X.env = (false, eval e X.env) :: starEach es X.env := by rfl) : DA X W (e :: es) (aCons f fA) :=
  PA.imp (pa_cons ha hr hs) fun σ H Q ⟨w, ρ, η, rel, p⟩ => by
    refine (rdE_then rel p).imp fun v H1 ⟨w1, d, η1, e, rel1, rv, p1⟩ => ?_
    obtain ⟨w2, ρ2, η2, rel2, q⟩ := rdA_then rel1 p1
    exact ⟨w2, ρ2, η2, rel2, q.imp fun vs H2 ⟨w3, ds, η3, e3, rel3, rvs, p3⟩ => p3 _ w3 H2 .refl rel3.heap (.cons (rv.ext e3) rvs)⟩
/-- a tuple -/
def mkT (fA : FA) : FE := fun ρ η => (fA ρ η).bind fun ds η => if ds.length ≤ sizeLine then .ok (.tup ds) η else .no
/-- a list that is never changed -/
def mkL (fA : FA) : FE := fun ρ η => (fA ρ η).bind fun ds η => if ds.length ≤ sizeLine then .ok (.lst ds) η else .no
/-- a list that may change -/
def mkO (fA : FA) : FE := fun ρ η => (fA ρ η).bind fun ds η => if ds.length ≤ sizeLine then .ok (.obj η.length) (η ++ [.lst ds]) else .no
theorem RepV.newT {xs : List V} {ds : List D} (hr : HeapRel K w H η) (r : RepVs K w H xs ds) {q : Addr} (hp : H q = none) : RepV K w (upd H q (.tup xs)) (.ref q) (.tup ds) :=
  .tup (StT.of_new hr hp) (r.ext (Ext.laid hp hr))
theorem RepV.newL {xs : List V} {ds : List D} (hr : HeapRel K w H η) (r : RepVs K w H xs ds) {q : Addr} (hp : H q = none) : RepV K w (upd H q (.lst xs)) (.ref q) (.lst ds) :=
  .lst (StL.of_new hr hp) (r.ext (Ext.laid hp hr))
theorem HeapRel.newO {xs : List V} {ds : List D} (hr : HeapRel K w H η) (r : RepVs K w H xs ds) {q : Addr} (hp : H q = none) : HeapRel K (w.more q) (upd H q (.lst xs)) (η ++ [.lst ds]) :=
  hr.more hp ⟨xs, upd_same, r.ext (Ext.more hp hr)⟩
theorem HeapRel.ixO (hr : HeapRel K w H η) (q : Addr) : (w.more q).io[η.length]? = some q := by
  show (w.io ++ [q])[η.length]? = some q
  rw [← hr.len, List.getElem?_append_right (Nat.le_refl _)]
  simp
theorem de_tup {k} (h : DA X W es fA) : DE X W (.Tuple es k pos) (mkT fA) :=
  PE.imp (pe_tup h) fun σ H Q ⟨w, ρ, η, rel, p⟩ => by
    obtain ⟨w, ρ, η, rel, q⟩ := rdA_then rel p
    refine ⟨w, ρ, η, rel, q.imp fun xs H1 ⟨w1, ds, η1, e, rel1, rv, p1⟩ => ?_⟩
    split at p1
    · rename_i hl
      exact ⟨by rw [rv.length]; exact hl, fun q hq => p1 _ w1 _ (Ext.laid hq rel1.heap) (rel1.heap.laid hq) (.newT rel1.heap rv hq)⟩
    · exact p1.elim
theorem de_lst (h : DA X W es fA) : DE X W (.List es pos) (mkL fA) :=
  PE.imp (pe_lst h) fun σ H Q ⟨w, ρ, η, rel, p⟩ => by
    obtain ⟨w, ρ, η, rel, q⟩ := rdA_then rel p
    refine ⟨w, ρ, η, rel, q.imp fun xs H1 ⟨w1, ds, η1, e, rel1, rv, p1⟩ => ?_⟩
    split at p1
    · rename_i hl
      exact ⟨by rw [rv.length]; exact hl, fun q hq => p1 _ w1 _ (Ext.laid hq rel1.heap) (rel1.heap.laid hq) (.newL rel1.heap rv hq)⟩
    · exact p1.elim
theorem de_lstO (h : DA X W es fA) : DE X W (.List es pos) (mkO fA) :=
  PE.imp (pe_lst h) fun σ H Q ⟨w, ρ, η, rel, p⟩ => by
    obtain ⟨w, ρ, η, rel, q⟩ := rdA_then rel p
    refine ⟨w, ρ, η, rel, q.imp fun xs H1 ⟨w1, ds, η1, e, rel1, rv, p1⟩ => ?_⟩
    split at p1
    · rename_i hl
      exact ⟨by rw [rv.length]; exact hl, fun q hq => p1 _ _ _ (Ext.more hq rel1.heap) (rel1.heap.newO rv hq) (.obj (rel1.heap.ixO q))⟩
    · exact p1.elim

/-! ### built-in calls, subscripts -/
theorem de_callB {x : Str} {id : String} {g : GL} (hc : CallR X (.builtin id) (rdL X.K g)) (hm : X.mg x = none) (hv : bootBuiltins x = some (.builtin id)) (ha : DA X W (e :: es) fA) (hg : Gl X x := by rfl) (hn : x ≠ "__name__" := by decide) (hdb : (x == ("__debug__" : Str)) = false := by decide)
    (he : starEach (e :: es) X.env = (false, eval e X.env) :: starEach es X.env := by rfl) (hpl : (backTo pos (starEach es X.env)).any (·.1) = false := by rfl) : DE X W (.Call (.Name x p) (e :: es) [] pos) (eL g fA) :=
  PE.imp (pe_callB hc hg hm hv ha hn hdb he hpl) fun _ _ _ => eL_reads
theorem de_callTy {x : Str} {T : String} {g : GL} (hc : CallR X (.type T) (rdL X.K g)) (hm : X.mg x = none) (hv : bootBuiltins x = some (.type T)) (ha : DA X W (e :: es) fA) (hg : Gl X x := by rfl) (hn : x ≠ "__name__" := by decide) (hdb : (x == ("__debug__" : Str)) = false := by decide)
    (he : starEach (e :: es) X.env = (false, eval e X.env) :: starEach es X.env := by rfl) (hpl : (backTo pos (starEach es X.env)).any (·.1) = false := by rfl) : DE X W (.Call (.Name x p) (e :: es) [] pos) (eL g fA) :=
  PE.imp (pe_callTy hc hg hm hv ha hn hdb he hpl) fun _ _ _ => eL_reads
theorem de_ix {g : G2} (hr : IxR X (rd2 X.K g)) (ha : DE X W a fa) (hb : DE X W b fb) (hs : PlainIx b := by intro _ _; rfl) : DE X W (.Subscript a b pos) (e2 g fa fb) := PE.imp (pe_ix hr ha hb hs) fun _ _ _ => e2_reads
/-- a[lo:hi] -/
abbrev GS := D → Option Int → Option Int → Store → Option (D × Store)
def rdSl (K : PySem.W.Frag) (g : GS) : V → Option Int → Option Int → Hp → VK → Prop := fun x lo hi H Q => ∃ w η d, HeapRel K w H η ∧ RepV K w H x d ∧ Post K (RepV K) w H Q (fun _ _ _ => False) (liftO (g d lo hi η))
abbrev FO := Env → Store → R (Option Int)
def oNone : FO := fun _ η => .ok none η
def oSome (f : FE) : FO := fun ρ η => (f ρ η).bind fun d η => match d with
  | .int i => .ok (some i) η
  | _ => .no
def rdO (K : PySem.W.Frag) (W : WX) (f : FO) : TO := fun σ H Q => ∃ w ρ η, Rel K w σ H ρ η ∧ Post K (fun _ _ (b c : Option Int) => b = c) w H Q (fun c d H' => W c d σ H') (f ρ η)
abbrev DO (X : Cx) (W : WX) (e : Option Expr) (f : FO) : Prop := PO X e (rdO X.K W f)
theorem PO.imp {e : Option Expr} {t t' : TO} (h : PO X e t) (m : ∀ σ H Q, t' σ H Q → t σ H Q) : PO X e t' := ⟨fun pins s σ H Q I q => h.run pins s σ H Q I (m σ H Q q)⟩
theorem do_none : DO X W none oNone := PO.imp po_none fun σ H Q ⟨w, ρ, η, rel, p⟩ => p none w H .refl rel.heap rfl
theorem do_some (h : DE X W e f) : DO X W (some e) (oSome f) := PO.imp (po_some h) fun σ H Q ⟨w, ρ, η, rel, p⟩ => by
  refine (rdE_then rel p).imp fun v H1 ⟨w1, d, η1, e, rel1, rv, p1⟩ => ?_
  cases rv with
  | int i => exact ⟨i, rfl, p1 _ w1 H1 .refl rel1.heap rfl⟩
  | _ => exact p1.elim
def eSl (g : GS) (fa : FE) (fl fh : FO) : FE := fun ρ η => (fa ρ η).bind fun x η => (fl ρ η).bind fun l η => (fh ρ η).bind fun u η => liftO (g x l u η)
theorem rdO_then {rep : Rp γ δ} {Q : δ → Hp → Prop} {fo : FO} {k : Option Int → Store → R γ} (rel : Rel K w σ H ρ η) (h : Post K rep w H Q (fun c d H' => W c d σ H') ((fo ρ η).bind k)) :
    rdO K W fo σ H fun b H1 => ∃ w1 η1, Ext w H w1 H1 ∧ Rel K w1 σ H1 ρ η1 ∧ Post K rep w1 H1 Q (fun c d H' => W c d σ H') (k b η1) :=
  ⟨w, ρ, η, rel, (Post.bind (rep := fun _ _ (b c : Option Int) => b = c) h).imp fun v H1 ⟨w1, d, η1, e, hr, rv, p⟩ => ⟨w1, η1, e, ⟨rel.env.ext e, hr⟩, by subst rv; exact p⟩⟩
theorem rdO.imp {Q Q' : Option Int → Hp → Prop} {fo : FO} (m : ∀ v H, Q v H → Q' v H) (h : rdO K W fo σ H Q) : rdO K W fo σ H Q' :=
  let ⟨w, ρ, η, r, p⟩ := h; ⟨w, ρ, η, r, p.imp m⟩
theorem de_slice {g : GS} {lo hi : Option Expr} {fl fh : FO} {p2 : Pos} (hr : SlR X (rdSl X.K g)) (he : DE X W e f) (hl : DO X W lo fl) (hu : DO X W hi fh) : DE X W (.Subscript e (.Slice lo hi none p2) pos) (eSl g f fl fh) :=
  PE.imp (pe_slice hr he hl hu) fun σ H Q ⟨w, ρ, η, rel, p⟩ => by
    refine (rdE_then rel p).imp fun v H1 ⟨w1, d, η1, e, rel1, rv, p1⟩ => ?_
    refine (rdO_then rel1 p1).imp fun l H2 ⟨w2, η2, e2, rel2, p2⟩ => ?_
    exact (rdO_then rel2 p2).imp fun u H3 ⟨w3, η3, e3, rel3, p3⟩ => ⟨w3, η3, d, rel3.heap, (rv.ext e2).ext e3, p3.lift⟩

/-! ### calls of the text's defs -/
theorem tk0 {X : Cx} : L2N.Takes X (fun _ _ _ _ => False) := fun _ _ x => by
  obtain ⟨_, _, _, _, _, _, _, _, _, _, _, _, _, _, _, _, z⟩ := x
  exact z.elim
abbrev FF := List D → Store → R D
def spD (K : PySem.W.Frag) (n : Nat) (F : FF) : Sp := fun vs H Q E => ∃ w η ds, HeapRel K w H η ∧ RepVs K w H vs ds ∧ ds.length = n ∧ Post K (RepV K) w H Q E (F ds η)
def eCall (n : Nat) (F : FF) (fA : FA) : FE := fun ρ η => (fA ρ η).bind fun ds η => if ds.length = n then F ds η else .no
theorem spD.len {n : Nat} {F : FF} {ps : List Str} (hn : ps.length = n) : ∀ vs H Q E, spD K n F vs H Q E → vs.length = ps.length := fun vs H Q E ⟨w, η, ds, _, r, l, _⟩ => by rw [r.length, l, hn]
/-- a def of the module, called by its name -/
theorem de_call {x : Str} {n k : Nat} {F : FF} {fd : FuncData} {ps : List Str} (tk : L2N.Takes X W) (hr : Room k X.A) (Fo : FnOk X.prog X.w X.K X.mg X.base (L2N.CX X.prog X.w) k (He.ga X.K x) fd ps (spD X.K n F))
    (hm : X.mg x = some (.ref (He.ga X.K x))) (hk : PySem.W.keepIn X.K (.ref (He.ga X.K x)) = true) (hb : Binds X.K fd ps []) (ha : DA X W (e :: es) fA) (hg : Gl X x := by rfl)
    (hdb : (x == ("__debug__" : Str)) = false := by decide) (he : starEach (e :: es) X.env = (false, eval e X.env) :: starEach es X.env := by rfl) (hpl : (backTo pos (starEach es X.env)).any (·.1) = false := by rfl) :
    DE X W (.Call (.Name x p) (e :: es) [] pos) (eCall n F fA) :=
  PE.imp (pe_callS Fo hr hg hm hk hb (fun σ => L2N.passAt tk σ) ha hdb he hpl) fun σ H Q ⟨w, ρ, η, rel, p⟩ => by
    obtain ⟨w, ρ, η, rel, q⟩ := rdA_then rel p
    refine ⟨w, ρ, η, rel, q.imp fun vs H1 ⟨w1, ds, η1, e, rel1, rv, p1⟩ => ?_⟩
    split at p1
    · rename_i hl
      exact ⟨w1, η1, ds, rel1.heap, rv, hl, p1⟩
    · exact p1.elim
end
end Dn
/-! Dn part 3: targets, statements, loops, comprehensions, defs. -/
namespace Dn
open PySem PySem.Spec PyProof.Rows L2
section
variable {α β γ δ : Type} {X : Cx} {W : WX} {K : PySem.W.Frag} {w w1 w' : Wd} {σ : L2.St} {H H1 H' : Hp} {ρ : Env} {η η1 : Store} {fa fb fc f : FE} {a b c e : Expr} {es : List Expr} {pos p : Pos} {s : FT} {fs gs : FS} {st : Stmt} {ss : List Stmt}
/-! ### targets -/
abbrev TGt := D → Env → Option Env
def bN (i : Nat) : TGt := fun d ρ => some (ρ.set i (some d))
def bTs : List TGt → List D → Env → Option Env
  | [], [], ρ => some ρ
  | b :: bs, d :: ds, ρ => match b d ρ with
    | some ρ => bTs bs ds ρ
    | none => none
  | _, _, _ => none
def bT (bs : List TGt) : TGt := fun d ρ => match d with
  | .tup ds => bTs bs ds ρ
  | .lst ds => bTs bs ds ρ
  | _ => none
def rdG (K : PySem.W.Frag) (sl : List Nat) (b : TGt) : TG := fun v σ H Q => ∃ w ρ d ρ', EnvRel K w σ H ρ ∧ RepV K w H v d ∧ b d ρ = some ρ' ∧
  ∀ σ', EnvRel K w σ' H ρ' → σ'.length = σ.length → (∀ j, j ∉ sl → σ'[j]? = σ[j]?) → Q σ' H
def rdGs (K : PySem.W.Frag) (sl : List Nat) (bs : List TGt) : TGs := fun vs σ H Q => ∃ w ρ ds ρ', EnvRel K w σ H ρ ∧ RepVs K w H vs ds ∧ bTs bs ds ρ = some ρ' ∧
  ∀ σ', EnvRel K w σ' H ρ' → σ'.length = σ.length → (∀ j, j ∉ sl → σ'[j]? = σ[j]?) → Q σ' H
abbrev DG (X : Cx) (sl : List Nat) (t : Expr) (b : TGt) : Prop := PG X t (rdG X.K sl b)
abbrev DGs (X : Cx) (sl : List Nat) (ts : List Expr) (bs : List TGt) : Prop := PGs X ts (rdGs X.K sl bs)
theorem PG.imp {e : Expr} {t t' : TG} (h : PG X e t) (m : ∀ v σ H Q, t' v σ H Q → t v σ H Q) : PG X e t' := ⟨fun pins s σ H v u Q I r q => h.run pins s σ H v u Q I r (m v σ H Q q)⟩
theorem PGs.imp {es : List Expr} {t t' : TGs} (h : PGs X es t) (m : ∀ v σ H Q, t' v σ H Q → t v σ H Q) : PGs X es t' := ⟨fun pins s σ H v u Q I r q => h.run pins s σ H v u Q I r (m v σ H Q q)⟩
theorem PG.or {e : Expr} {t t' : TG} (h : PG X e t) (h' : PG X e t') : PG X e (fun v σ H Q => t v σ H Q ∨ t' v σ H Q) := ⟨fun pins s σ H v u Q I r q => q.elim (h.run pins s σ H v u Q I r) (h'.run pins s σ H v u Q I r)⟩
theorem dg_n (i : Nat) {x : Str} (hN : X.N.Nodup) (hi : X.N[i]? = some x := by rfl) (hx : Loc X.env.scope x := by first | exact .inl rfl | exact .inr rfl) (hf : X.fn x = true ∨ X.env.scope.names.lookup x = some .local := by first | exact .inl rfl | exact .inr rfl | assumption) : DG X [i] (.Name x pos) (bN i) :=
  PG.imp (pg_name hN hi hx hf) fun v σ H Q ⟨w, ρ, d, ρ', er, rv, hb, q⟩ => by
    cases hb
    exact q _ (er.set rv) (by simp) fun j hj => List.getElem?_set_ne (by simpa using Ne.symm (show j ≠ i by simpa using hj))
theorem dgs_nil : DGs X [] [] [] := PGs.imp pgs_nil fun vs σ H Q ⟨w, ρ, ds, ρ', er, rv, hb, q⟩ => by
  cases rv with
  | nil => cases hb; exact ⟨rfl, q σ er rfl fun _ _ => rfl⟩
  | cons _ _ => cases hb
theorem dgs_cons {sl sl' : List Nat} {t : Expr} {ts : List Expr} {b : TGt} {bs : List TGt} (h1 : DG X sl t b) (h2 : DGs X sl' ts bs)
    (hs : (assignEach (t :: ts) X.env).map (·.2) = assign t X.env :: (assignEach ts X.env).map (·.2) := by rfl) : DGs X (sl ++ sl') (t :: ts) (b :: bs) :=
  PGs.imp (pgs_cons h1 h2 hs) fun vs σ H Q ⟨w, ρ, ds, ρ', er, rv, hb, q⟩ => by
    cases rv with
    | nil => cases hb
    | cons r rr =>
      dsimp only [bTs] at hb
      split at hb
      · rename_i ρ1 e1
        refine ⟨_, _, rfl, w, ρ, _, ρ1, er, r, e1, fun σ1 er1 l1 f1 => ⟨w, ρ1, _, ρ', er1, rr, hb, fun σ2 er2 l2 f2 => q σ2 er2 (l2.trans l1) fun j hj => ?_⟩⟩
        rw [f2 j fun z => hj (List.mem_append_right _ z), f1 j fun z => hj (List.mem_append_left _ z)]
      · cases hb
theorem dg_t {sl : List Nat} {ts : List Expr} {bs : List TGt} {k n : Nat} (hc : X.calm = true) (h : DGs X sl ts bs) (hn : (assignEach ts X.env).length = n := by rfl) (hl : bs.length = n := by rfl)
    (hst : (assignEach ts X.env).findIdx? (·.1) = none := by rfl) : DG X sl (.Tuple ts k pos) (bT bs) :=
  PG.imp (PG.or (pg_tup hc h hn hst) (pg_lst hc h hn hst)) fun v σ H Q ⟨w, ρ, d, ρ', er, rv, hb, q⟩ => by
    have len : ∀ (bs : List TGt) (ds : List D) (ρ ρ' : Env), bTs bs ds ρ = some ρ' → ds.length = bs.length := by
      intro bs
      induction bs with
      | nil => intro ds ρ ρ' h; cases ds with | nil => rfl | cons _ _ => cases h
      | cons b bs ih =>
        intro ds ρ ρ' h
        cases ds with
        | nil => cases h
        | cons d ds =>
          dsimp only [bTs] at h
          split at h
          · rename_i ρ1 e1; rw [List.length_cons, List.length_cons, ih ds ρ1 ρ' h]
          · cases h
    cases rv with
    | tup hs rr => exact .inl ⟨_, _, rfl, hs.sq, by rw [rr.length, len _ _ _ _ hb, hl], w, ρ, _, ρ', er, rr, hb, q⟩
    | lst hs rr => exact .inr ⟨_, _, rfl, hs.sq, by rw [rr.length, len _ _ _ _ hb, hl], w, ρ, _, ρ', er, rr, hb, q⟩
    | _ => cases hb

/-! ### statements -/
theorem rdS.imp {E E' : Ends} (m1 : ∀ σ H, E.nx σ H → E'.nx σ H) (m2 : ∀ v H, E.rt v H → E'.rt v H) (m3 : ∀ σ H, E.bk σ H → E'.bk σ H) (m4 : ∀ σ H, E.ct σ H → E'.ct σ H) (h : rdS K W fs E σ H) : rdS K W fs E' σ H := by
  obtain ⟨w, ρ, η, rel, p⟩ := h
  refine ⟨w, ρ, η, rel, ?_⟩
  cases e : fs ρ η with
  | nx ρ η => rw [e] at p; exact fun σ w' H' e' r => m1 _ _ (p σ w' H' e' r)
  | brk ρ η => rw [e] at p; exact fun σ w' H' e' r => m3 _ _ (p σ w' H' e' r)
  | cnt ρ η => rw [e] at p; exact fun σ w' H' e' r => m4 _ _ (p σ w' H' e' r)
  | ret d η => rw [e] at p; exact fun v w' H' e' r rv => m2 _ _ (p v w' H' e' r rv)
  | exc x ρ η => rw [e] at p; exact p
  | no => rw [e] at p; exact p
theorem rdE_thenS {E : Ends} {k : D → Store → RS} (rel : Rel K w σ H ρ η) (h : PostS K w H E W ((fa ρ η).bindS ρ k)) :
    rdE K W fa σ H fun v H1 => ∃ w1 d η1, Ext w H w1 H1 ∧ Rel K w1 σ H1 ρ η1 ∧ RepV K w1 H1 v d ∧ PostS K w1 H1 E W (k d η1) :=
  ⟨w, ρ, η, rel, PostS.bind (rep := RepV K) rel.env h⟩
theorem rdT_thenS {E : Ends} {k : Bool → Store → RS} (rel : Rel K w σ H ρ η) (h : PostS K w H E W ((s ρ η).bindS ρ k)) :
    rdT K W s σ H fun b H1 => ∃ w1 η1, Ext w H w1 H1 ∧ Rel K w1 σ H1 ρ η1 ∧ PostS K w1 H1 E W (k b η1) :=
  ⟨w, ρ, η, rel, (PostS.bind (rep := fun _ _ (b c : Bool) => b = c) rel.env h).imp fun b H1 ⟨w1, d, η1, e, r, eb, p⟩ => ⟨w1, η1, e, r, by subst eb; exact p⟩⟩
def sNil : FS := fun ρ η => .nx ρ η
def sSeq (f g : FS) : FS := fun ρ η => match f ρ η with
  | .nx ρ η => g ρ η
  | r => r
theorem dss_nil : DSs X W [] sNil := PSs.imp pss_nil fun E σ H ⟨w, ρ, η, rel, p⟩ => p σ w H .refl rel
theorem seq_reads {E : Ends} (h : rdS K W (sSeq fs gs) E σ H) : tSeq (rdS K W fs) (rdS K W gs) E σ H := by
  obtain ⟨w, ρ, η, rel, p⟩ := h
  refine ⟨w, ρ, η, rel, ?_⟩
  unfold sSeq at p
  cases e : fs ρ η with
  | nx ρ η => rw [e] at p; exact fun σ w' H' e' r => ⟨w', ρ, η, r, PostS.weak e' p⟩
  | brk ρ η => rw [e] at p; exact p
  | cnt ρ η => rw [e] at p; exact p
  | ret d η => rw [e] at p; exact p
  | exc x ρ η => rw [e] at p; exact p
  | no => rw [e] at p; exact p
theorem dss_cons (h1 : DS X W st fs) (h2 : DSs X W ss gs) : DSs X W (st :: ss) (sSeq fs gs) := PSs.imp (pss_cons h1 h2) fun _ _ _ => seq_reads
theorem dss_one (h1 : DS X W st fs) : DSs X W [st] fs := pss_one h1
theorem ds_pass : DS X W (.Pass pos) sNil := PS.imp ps_pass fun E σ H ⟨w, ρ, η, rel, p⟩ => p σ w H .refl rel
def sBrk : FS := fun ρ η => .brk ρ η
def sCnt : FS := fun ρ η => .cnt ρ η
theorem ds_brk : DS X W (.Break pos) sBrk := PS.imp ps_break fun E σ H ⟨w, ρ, η, rel, p⟩ => p σ w H .refl rel
theorem ds_cnt : DS X W (.Continue pos) sCnt := PS.imp ps_continue fun E σ H ⟨w, ρ, η, rel, p⟩ => p σ w H .refl rel
def sExp (f : FE) : FS := fun ρ η => (f ρ η).bindS ρ fun _ η => .nx ρ η
theorem ds_exp (he : DE X W e f) (hs : swapsWith e none pos.line X.env = pure false := by rfl) : DS X W (.Expr e pos) (sExp f) :=
  PS.imp (ps_expr he hs) fun E σ H ⟨w, ρ, η, rel, p⟩ => (rdE_thenS rel p).imp fun v H1 ⟨w1, d, η1, e, rel1, rv, p1⟩ => p1 σ w1 H1 .refl rel1
def sRet (f : FE) : FS := fun ρ η => (f ρ η).bindS ρ fun d η => .ret d η
theorem ds_ret (he : DE X W e f) : DS X W (.Return (some e) pos) (sRet f) :=
  PS.imp (ps_ret he) fun E σ H ⟨w, ρ, η, rel, p⟩ => (rdE_thenS rel p).imp fun v H1 ⟨w1, d, η1, e, rel1, rv, p1⟩ => p1 v w1 H1 .refl rel1.heap rv
def sRetN : FS := fun ρ η => .ret .non η
theorem ds_retN : DS X W (.Return none pos) sRetN := PS.imp ps_retN fun E σ H ⟨w, ρ, η, rel, p⟩ => p .non w H .refl rel.heap .non
def sIf (c : FT) (f g : FS) : FS := fun ρ η => (c ρ η).bindS ρ fun b η => if b = true then f ρ η else g ρ η
theorem ds_if {a b : List Stmt} (hc : DT X W c s) (ha : DSs X W a fs) (hb : DSs X W b gs) : DS X W (.If c a b pos) (sIf s fs gs) :=
  PS.imp (ps_if hc ha hb) fun E σ H ⟨w, ρ, η, rel, p⟩ => by
    obtain ⟨w, ρ, η, rel, q⟩ := rdT_thenS rel p
    refine ⟨w, ρ, η, rel, q.imp fun b H1 ⟨w1, η1, e, rel1, p1⟩ => ?_⟩
    cases b with
    | true => exact iteT ⟨w1, _, η1, rel1, p1⟩
    | false => exact iteF ⟨w1, _, η1, rel1, p1⟩
/-- target = e -/
def sAsg (f : FE) (b : TGt) : FS := fun ρ η => (f ρ η).bindS ρ fun d η => match b d ρ with
  | some ρ => .nx ρ η
  | none => .no
theorem asg_reads {E : Ends} {sl : List Nat} {b : TGt} (h : rdS K W (sAsg f b) E σ H) : tAsg (rdE K W f) (rdG K sl b) E σ H := by
  obtain ⟨w, ρ, η, rel, p⟩ := h
  refine (rdE_thenS rel p).imp fun v H1 ⟨w1, d, η1, e, rel1, rv, p1⟩ => ?_
  split at p1
  · rename_i ρ' eb
    exact ⟨w1, ρ, d, ρ', rel1.env, rv, eb, fun σ' er _ _ => p1 σ' w1 H1 .refl ⟨er, rel1.heap⟩⟩
  · exact p1.elim
theorem ds_set (i : Nat) {x : Str} {pos' : Pos} (hN : X.N.Nodup) (he : DE X W e f) (hi : X.N[i]? = some x := by rfl) (hx : Loc X.env.scope x := by first | exact .inl rfl | exact .inr rfl) (hs : swapsWith e (some (.Name x pos')) pos.line X.env = pure false := by rfl)
    (hf : X.fn x = true ∨ X.env.scope.names.lookup x = some .local := by first | exact .inl rfl | exact .inr rfl | assumption) : DS X W (.Assign [.Name x pos'] e pos) (sAsg f (bN i)) :=
  PS.imp (ps_set hN hi hx he hs hf) fun E σ H ⟨w, ρ, η, rel, p⟩ => by
    refine (rdE_thenS rel p).imp fun v H1 ⟨w1, d, η1, e, rel1, rv, p1⟩ => p1 _ w1 H1 .refl ⟨rel1.env.set rv, rel1.heap⟩
theorem ds_asg {tg : Expr} {sl : List Nat} {b : TGt} (hg : DG X sl tg b) (he : DE X W e f) (hs : swapsWithSole [tg] e pos.line X.env = pure false := by rfl) (hw : swappedStores [tg] e X.env = pure none := by rfl)
    (h1 : (assignEach [tg] X.env).map (·.2) = [assign tg X.env] := by rfl) : DS X W (.Assign [tg] e pos) (sAsg f b) :=
  PS.imp (ps_asg he hg hs hw h1) fun _ _ _ => asg_reads
/-- a, b = x, y: two different local names -/
def sPar (i j : Nat) (fa fb : FE) : FS := fun ρ η => (fa ρ η).bindS ρ fun x η => (fb ρ η).bindS ρ fun y η => .nx ((ρ.set i (some x)).set j (some y)) η
theorem ds_par (i j : Nat) {x y : Str} {px py pt : Pos} {kt k2 pt2} (hc : X.calm = true) (hN : X.N.Nodup) (ha : DE X W a fa) (hb : DE X W b fb) (hi : X.N[i]? = some x := by rfl) (hj : X.N[j]? = some y := by rfl) (hij : i ≠ j := by decide)
    (hx : X.env.scope.names.lookup x = some .local := by rfl) (hy : X.env.scope.names.lookup y = some .local := by rfl)
    (hw : swappedStores [.Tuple [.Name x px, .Name y py] kt pt] (.Tuple [a, b] k2 pt2) X.env = pure (some [x, y]) := by rfl)
    (hs : swapsWithSole [.Tuple [.Name x px, .Name y py] kt pt] (.Tuple [a, b] k2 pt2) pos.line X.env = pure false := by rfl)
    (h1 : starEach [a, b] X.env = (false, eval a X.env) :: starEach [b] X.env := by rfl) (h2 : starEach [b] X.env = (false, eval b X.env) :: starEach [] X.env := by rfl) :
    DS X W (.Assign [.Tuple [.Name x px, .Name y py] kt pt] (.Tuple [a, b] k2 pt2) pos) (sPar i j fa fb) :=
  PS.imp (ps_par hc hN hi hj hij hx hy (pa_cons ha (pa_cons hb pa_nil h2) h1) hw hs) fun E σ H ⟨w, ρ, η, rel, p⟩ => by
    refine (rdE_thenS rel p).imp fun v H1 ⟨w1, d, η1, e, rel1, rv, p1⟩ => ?_
    refine (rdE_thenS rel1 p1).imp fun u H2 ⟨w2, d2, η2, e2, rel2, rv2, p2⟩ => ?_
    exact ⟨_, _, rfl, p2 _ w2 H2 .refl ⟨(rel2.env.set (rv.ext e2)).set rv2, rel2.heap⟩⟩
/-- x op= e at a name -/
def sAug (i : Nat) (g : G2) (f : FE) : FS := fun ρ η => match ρ[i]? with
  | some (some x) => (f ρ η).bindS ρ fun y η => (liftO (g x y η)).bindS ρ fun z η => .nx (ρ.set i (some z)) η
  | _ => .no
theorem ds_aug (i : Nat) {x : Str} {op : Operator} {g : G2} {pos' : Pos} (hN : X.N.Nodup) (he : DE X W e f) (ho : OpR X (inplaceOp op) (rd2 X.K g)) (hi : X.N[i]? = some x := by rfl) (hx : Loc X.env.scope x := by first | exact .inl rfl | exact .inr rfl)
    (hf : X.fn x = true ∨ X.env.scope.names.lookup x = some .local := by first | exact .inl rfl | exact .inr rfl | assumption) : DS X W (.AugAssign (.Name x pos') op e pos) (sAug i g f) :=
  PS.imp (ps_aug hN hi hx he (fun pins s σ H x y v u Q I rx ry q => ho pins s σ H x y v u Q I rx ry q) hf) fun E σ H ⟨w, ρ, η, rel, p⟩ => by
    unfold sAug at p
    split at p
    · rename_i d ed
      obtain ⟨v, ev, rv⟩ := rel.env.at_ i d ed
      refine ⟨v, ev, (rdE_thenS rel p).imp fun u H1 ⟨w1, d1, η1, e1, rel1, ru, p1⟩ => ?_⟩
      refine ⟨w1, η1, d, d1, rel1.heap, rv.ext e1, ru, ?_⟩
      refine ((PostS.bind (rep := RepV X.K) rel1.env p1).imp fun z H2 ⟨w2, dz, η2, e2, rel2, rz, p2⟩ => ?_).lift
      exact p2 _ w2 H2 .refl ⟨rel2.env.set rz, rel2.heap⟩
    · exact p.elim

/-! ### what is walked -/
inductive Src where
  | val (xs : List D)
  /-- some (some x): the turn's item; some none: the end -/
  | dyn (f : Nat → Store → Option (Option D))
def Src.at : Src → Nat → Store → Option D
  | .val xs, i, _ => xs[i]?
  | .dyn f, i, η => match f i η with
    | some (some x) => some x
    | _ => none
def Src.fin : Src → Nat → Store → Prop
  | .val xs, i, _ => xs.length = i
  | .dyn f, i, η => f i η = some none
def objAt (k : Nat) : Nat → Store → Option (Option D) := fun i η => match η[k]? with
  | some (.lst xs) => if i ≤ xs.length then some xs[i]? else none
  | _ => none
structure ItOk (K : PySem.W.Frag) (J : It) (src : Src) (w0 : Wd) (H0 : Hp) : Prop where
  go : ∀ i w H η x, Ext w0 H0 w H → HeapRel K w H η → src.at i η = some x → J.go i H ∧ ∀ v H', J.yld i H v H' → Ext w H w H' ∧ HeapRel K w H' η ∧ RepV K w H' v x
  stop : ∀ i w H η, Ext w0 H0 w H → HeapRel K w H η → src.fin i η → J.stop i H
abbrev FI := Env → Store → R Src
def rdI (K : PySem.W.Frag) (W : WX) (f : FI) : TI := fun σ H Q => ∃ w ρ η, Rel K w σ H ρ η ∧ Post K (fun w H J src => ItOk K J src w H) w H Q (fun c d H' => W c d σ H') (f ρ η)
abbrev DI (X : Cx) (W : WX) (tg e : Expr) (f : FI) : Prop := PI X tg e (rdI X.K W f)
theorem PI.imp {tg e : Expr} {t t' : TI} (h : PI X tg e t) (m : ∀ σ H Q, t' σ H Q → t σ H Q) : PI X tg e t' := ⟨fun pins s σ H Q I q => h.run pins s σ H Q I (m σ H Q q)⟩
theorem itOk_tup {a : Addr} {xs : List V} {ds : List D} (hs : ∀ w' H', Ext w H w' H' → SqT K H' a xs) (r : RepVs K w H xs ds) : ItOk K (Itt K a) (.val ds) w H := by
  refine ⟨fun i w1 H1 η x e hr hx => ?_, fun i w1 H1 η e hr hf => ⟨xs, hs _ _ e, by rw [r.length]; exact Nat.le_of_eq hf⟩⟩
  obtain ⟨v, hv, rv⟩ := r.get (show ds[i]? = some x from hx)
  refine ⟨⟨xs, v, hs _ _ e, hv⟩, fun u H2 ⟨eH, hy⟩ => ?_⟩
  subst eH
  have q := hy xs (hs _ _ e)
  rw [hv] at q; cases q
  exact ⟨.refl, hr, rv.ext e⟩
theorem itOk_lst {a : Addr} {xs : List V} {ds : List D} (hs : ∀ w' H', Ext w H w' H' → SqL K H' a xs) (r : RepVs K w H xs ds) : ItOk K (Itl K a) (.val ds) w H := by
  refine ⟨fun i w1 H1 η x e hr hx => ?_, fun i w1 H1 η e hr hf => ⟨xs, hs _ _ e, by rw [r.length]; exact Nat.le_of_eq hf⟩⟩
  obtain ⟨v, hv, rv⟩ := r.get (show ds[i]? = some x from hx)
  refine ⟨⟨xs, v, hs _ _ e, hv⟩, fun u H2 ⟨eH, hy⟩ => ?_⟩
  subst eH
  have q := hy xs (hs _ _ e)
  rw [hv] at q; cases q
  exact ⟨.refl, hr, rv.ext e⟩
theorem itOk_obj {a : Addr} {k : Nat} (ha : w.io[k]? = some a) : ItOk K (Itl K a) (.dyn (objAt k)) w H := by
  refine ⟨fun i w1 H1 η x e hr hx => ?_, fun i w1 H1 η e hr hf => ?_⟩
  · dsimp only [Src.at, objAt] at hx
    cases eo : η[k]? with
    | none => rw [eo] at hx; cases hx
    | some ob =>
      rw [eo] at hx
      cases ob with
      | lst ds =>
        obtain ⟨xs, eH, r⟩ := hr.at_ _ _ _ (e.toMv.get ha) eo
        dsimp only at hx
        split at hx
        case h_2 => cases hx
        rename_i y ed
        split at ed
        case isFalse => cases ed
        replace ed := Option.some.inj ed
        · cases hx
          obtain ⟨v, hv, rv⟩ := r.get ed
          refine ⟨⟨xs, v, SqL.of eH, hv⟩, fun u H2 ⟨eH2, hy⟩ => ?_⟩
          subst eH2
          have q := hy xs (SqL.of eH)
          rw [hv] at q; cases q
          exact ⟨.refl, hr, rv⟩
      | _ => cases hx
  · dsimp only [Src.fin, objAt] at hf
    cases eo : η[k]? with
    | none => rw [eo] at hf; cases hf
    | some ob =>
      rw [eo] at hf
      cases ob with
      | lst ds =>
        obtain ⟨xs, eH, r⟩ := hr.at_ _ _ _ (e.toMv.get ha) eo
        dsimp only at hf
        split at hf
        · exact ⟨xs, SqL.of eH, by rw [r.length]; exact List.getElem?_eq_none_iff.mp (Option.some.inj hf)⟩
        · cases hf
      | _ => cases hf
/-- iter(v) of a list, a tuple, a text, by values -/
theorem iter_list {tg : Expr} {pins : List (Addr × Obj)} {σ : L2.St} {H : Hp} {s : Shared} {R : It → Hp → Prop} {E : Value → Shared → Prop} {a : Addr} {xs : List V} (I : Inv X pins σ H s) (hq : SqL X.K H a xs) (q : R (Itl X.K a) H) :
    wpAny (model X.prog X.w) X.A (pyIter (.ref a)) (PIE X pins σ tg R) E s := by
  obtain ⟨its, rv, p, hz⟩ := I.list hq
  refine wpAny_pyIter_list p.isList ?_
  refine ⟨s.heap.objs.size, [s.heap.objs.size], _, _, H, rfl, I.kept (t' := s.toks) fun b o e => Heap.get?_push_of_some _ e, turn_list a _, ⟨_, Heap.get?_push_size _ rfl, rfl, rfl⟩, fun b hb => ?_, q⟩
  have e : b = s.heap.objs.size := by simpa using hb
  subst e
  exact I.fpOk (Nat.le_refl _) (I.hok.fresh (Nat.le_refl _))
theorem iter_tup {tg : Expr} {pins : List (Addr × Obj)} {σ : L2.St} {H : Hp} {s : Shared} {R : It → Hp → Prop} {E : Value → Shared → Prop} {a : Addr} {xs : List V} (I : Inv X pins σ H s) (hq : SqT X.K H a xs) (q : R (Itt X.K a) H) :
    wpAny (model X.prog X.w) X.A (pyIter (.ref a)) (PIE X pins σ tg R) E s := by
  obtain ⟨its, rv, p, hz⟩ := I.tuple hq
  refine wpAny_pyIter_tuple (show s.heap.IsTuple a its.toArray from p) ?_
  refine ⟨s.heap.objs.size, [s.heap.objs.size], _, _, H, rfl, I.kept (t' := s.toks) fun b o e => Heap.get?_push_of_some _ e, turn_tuple a _, ⟨_, Heap.get?_push_size _ rfl, rfl, rfl⟩, fun b hb => ?_, q⟩
  have e : b = s.heap.objs.size := by simpa using hb
  subst e
  exact I.fpOk (Nat.le_refl _) (I.hok.fresh (Nat.le_refl _))
theorem iter_str {tg : Expr} {pins : List (Addr × Obj)} {σ : L2.St} {H : Hp} {s : Shared} {R : It → Hp → Prop} {E : Value → Shared → Prop} {x : Str} {t : Tok} (I : Inv X pins σ H s) (q : R (Its x) H) :
    wpAny (model X.prog X.w) X.A (pyIter (.str x t)) (PIE X pins σ tg R) E s := by
  cases ha : x.cps.all (· < 128)
  · exact wpAny_pyIter_wide ha (pi_one (tk := s.toks) I _ (turn_str _ x t "str_iterator" (.inr rfl)) ⟨_, Heap.get?_push_size _ rfl, rfl, rfl⟩ q)
  · exact wpAny_pyIter_ascii ha (pi_one (tk := s.toks) I _ (turn_str _ x t "str_ascii_iterator" (.inl rfl)) ⟨_, Heap.get?_push_size _ rfl, rfl, rfl⟩ q)
def srcOf : D → Store → Option Src
  | .tup xs, _ => some (.val xs)
  | .lst xs, _ => some (.val xs)
  | .scr xs, _ => some (.val xs)
  | .str x, _ => some (.val (x.cps.toList.map fun c => .str ⟨#[c]⟩))
  | .obj k, η => match η[k]? with
    | some (.lst _) => some (.dyn (objAt k))
    | _ => none
  | _, _ => none
def iVal (f : FE) : FI := fun ρ η => (f ρ η).bind fun d η => match srcOf d η with
  | some s => .ok s η
  | none => .no
theorem itOk_str {x : Str} : ItOk K (Its x) (.val (x.cps.toList.map fun c => .str ⟨#[c]⟩)) w H := by
  refine ⟨fun i w1 H1 η y e hr hx => ?_, fun i w1 H1 η e hr hf => ?_⟩
  · have hx' : (x.cps.toList.map fun c => D.str ⟨#[c]⟩)[i]? = some y := hx
    rw [List.getElem?_map] at hx'
    cases ec : x.cps.toList[i]? with
    | none => rw [ec] at hx'; cases hx'
    | some c =>
      rw [ec] at hx'
      cases hx'
      have ec' : x.cps[i]? = some c := by simpa using ec
      refine ⟨(Array.getElem?_eq_some_iff.mp ec').1, fun v H2 ⟨e1, c', hc, ev⟩ => ?_⟩
      subst e1 ev
      rw [ec'] at hc; cases hc
      exact ⟨.refl, hr, .str _⟩
  · have : (x.cps.toList.map fun c => D.str ⟨#[c]⟩).length ≤ i := Nat.le_of_eq hf
    show x.cps.size ≤ i
    simpa using this
theorem di_val {tg : Expr} (h : DE X W e f) : DI X W tg e (iVal f) := by
  refine ⟨fun pins s σ H R I ⟨w, ρ, η, rel, p⟩ => ?_⟩
  refine thn (h.run pins s σ H _ I (rdE_then rel p)) fun v s1 ⟨x, H1, I1, r1, w1, d, η1, e1, rel1, rv, p1⟩ => ?_
  cases rv with
  | tup hs rr => cases r1; exact iter_tup I1 hs.sq (p1 _ w1 H1 .refl rel1.heap (itOk_tup (fun _ _ e => (hs.ext e).sq) rr))
  | lst hs rr => cases r1; exact iter_list I1 hs.sq (p1 _ w1 H1 .refl rel1.heap (itOk_lst (fun _ _ e => (hs.ext e).sq) rr))
  | scr hs rr => cases r1; exact iter_list I1 hs.sq (p1 _ w1 H1 .refl rel1.heap (itOk_lst (fun _ _ e => (hs.ext e).sq) rr))
  | str y => obtain ⟨t, rfl⟩ := r1; exact iter_str I1 (p1 _ w1 H1 .refl rel1.heap itOk_str)
  | @obj i a ha =>
    cases r1
    dsimp only [srcOf] at p1
    cases eo : η1[i]? with
    | none => rw [eo] at p1; exact p1.elim
    | some ob =>
      rw [eo] at p1
      cases ob with
      | lst ds =>
        obtain ⟨xs, eH, _⟩ := rel1.heap.at_ _ _ _ ha eo
        exact iter_list I1 (SqL.of eH) (p1 _ w1 H1 .refl rel1.heap (itOk_obj ha))
      | _ => exact p1.elim
  | _ => exact p1.elim

/-! ### for -/
def forL (b : TGt) (body : FS) : List D → Env → Store → RS
  | [], ρ, η => .nx ρ η
  | x :: r, ρ, η => match b x ρ with
    | none => .no
    | some ρ => match body ρ η with
      | .nx ρ η => forL b body r ρ η
      | .cnt ρ η => forL b body r ρ η
      | .brk ρ η => .nx ρ η
      | r => r
def forO (b : TGt) (body : FS) (at_ : Nat → Store → Option (Option D)) : Nat → Nat → Env → Store → RS
  | 0, _, _, _ => .no
  | m + 1, i, ρ, η => match at_ i η with
    | none => .no
    | some none => .nx ρ η
    | some (some x) => match b x ρ with
        | none => .no
        | some ρ => match body ρ η with
          | .nx ρ η => forO b body at_ m (i + 1) ρ η
          | .cnt ρ η => forO b body at_ m (i + 1) ρ η
          | .brk ρ η => .nx ρ η
          | r => r
def sFor (N : Nat) (fi : FI) (b : TGt) (body : FS) : FS := fun ρ η => (fi ρ η).bindS ρ fun src η => match src with
  | .val xs => forL b body xs ρ η
  | .dyn f => forO b body f N 0 ρ η
/-- a body's turn -/
theorem turn_reads {E : Ends} {Nx : L2.St → Hp → Prop} {k : Env → Store → RS} (rel : Rel K w σ H ρ η)
    (h : PostS K w H E W (match fs ρ η with | .nx ρ η => k ρ η | .cnt ρ η => k ρ η | .brk ρ η => .nx ρ η | r => r))
    (hn : ∀ ρ' η' σ' w' H', Ext w H w' H' → Rel K w' σ' H' ρ' η' → PostS K w' H' E W (k ρ' η') → Nx σ' H') : rdS K W fs { E with nx := Nx, ct := Nx, bk := E.nx } σ H := by
  refine ⟨w, ρ, η, rel, ?_⟩
  cases e : fs ρ η with
  | nx ρ' η' => rw [e] at h; exact fun σ' w' H' e' r => hn ρ' η' σ' w' H' e' r (PostS.weak e' h)
  | cnt ρ' η' => rw [e] at h; exact fun σ' w' H' e' r => hn ρ' η' σ' w' H' e' r (PostS.weak e' h)
  | brk ρ' η' => rw [e] at h; exact h
  | ret d η' => rw [e] at h; exact h
  | exc x ρ' η' => rw [e] at h; exact h
  | no => rw [e] at h; exact h
theorem for_reads {E : Ends} {N : Nat} {fi : FI} {sl : List Nat} {b : TGt} (h : rdS K W (sFor N fi b fs) E σ H) : tFor (rdI K W fi) (rdG K sl b) (rdS K W fs) E σ H := by
  obtain ⟨w, ρ, η, rel, p⟩ := h
  refine ⟨w, ρ, η, rel, (PostS.bind (rep := fun w H J src => ItOk K J src w H) rel.env p).imp fun J H1 ⟨w1, src, η1, e1, rel1, io, p1⟩ => ?_⟩
  cases src with
  | val xs =>
    refine ⟨fun i m σ H => ∃ w ρ η, Ext w1 H1 w H ∧ Rel K w σ H ρ η ∧ m = xs.length - i ∧ i ≤ xs.length ∧ PostS K w H E W (forL b fs (xs.drop i) ρ η), ⟨_, w1, ρ, η1, .refl, rel1, rfl, Nat.zero_le _, p1⟩, fun i m σ2 H2 ⟨w2, ρ2, η2, e2, rel2, em, hi, p2⟩ => ?_⟩
    cases ex : xs[i]? with
    | none =>
      have hl : xs.length ≤ i := List.getElem?_eq_none_iff.mp ex
      rw [List.drop_eq_nil_of_le hl] at p2
      exact .inl ⟨io.stop i w2 H2 η2 e2 rel2.heap (Nat.le_antisymm hl hi), p2 σ2 w2 H2 .refl rel2⟩
    | some x =>
      obtain ⟨hl, ex'⟩ := List.getElem?_eq_some_iff.mp ex
      have ed : xs.drop i = x :: xs.drop (i + 1) := by rw [List.drop_eq_getElem_cons hl, ex']
      rw [ed] at p2
      obtain ⟨g, y⟩ := io.go i w2 H2 η2 x e2 rel2.heap ex
      refine .inr ⟨g, fun σ' H' => ∃ w ρ η, Ext w1 H1 w H' ∧ Rel K w σ' H' ρ η ∧ PostS K w H' E W (forL b fs (xs.drop (i + 1)) ρ η), fun σ' H' ⟨w', ρ', η', e', r', q'⟩ => ⟨xs.length - (i + 1), by omega, w', ρ', η', e', r', rfl, hl, q'⟩, fun v H3 hy => ?_⟩
      obtain ⟨e3, hr3, rv⟩ := y v H3 hy
      dsimp only [forL] at p2
      cases eb : b x ρ2 with
      | none => rw [eb] at p2; exact p2.elim
      | some ρ3 =>
        rw [eb] at p2
        refine ⟨w2, ρ2, x, ρ3, rel2.env.ext e3, rv, eb, fun σ3 er3 _ _ => ?_⟩
        exact turn_reads ⟨er3, hr3⟩ (PostS.weak e3 p2) fun ρ' η' σ' w' H' e' r' q' => ⟨w', ρ', η', (e2.trans e3).trans e', r', q'⟩
  | dyn f =>
    refine ⟨fun i m σ H => ∃ w ρ η, Ext w1 H1 w H ∧ Rel K w σ H ρ η ∧ PostS K w H E W (forO b fs f m i ρ η), ⟨_, w1, ρ, η1, .refl, rel1, p1⟩, fun i m σ2 H2 ⟨w2, ρ2, η2, e2, rel2, p2⟩ => ?_⟩
    cases m with
    | zero => exact p2.elim
    | succ m =>
      dsimp only [forO] at p2
      cases eo : f i η2 with
      | none => rw [eo] at p2; exact p2.elim
      | some ob =>
        rw [eo] at p2
        cases ob with
        | none => exact .inl ⟨io.stop i w2 H2 η2 e2 rel2.heap eo, p2 σ2 w2 H2 .refl rel2⟩
        | some x =>
            obtain ⟨g, y⟩ := io.go i w2 H2 η2 x e2 rel2.heap (by dsimp only [Src.at]; rw [eo])
            refine .inr ⟨g, fun σ' H' => ∃ w ρ η, Ext w1 H1 w H' ∧ Rel K w σ' H' ρ η ∧ PostS K w H' E W (forO b fs f m (i + 1) ρ η), fun σ' H' ⟨w', ρ', η', e', r', q'⟩ => ⟨m, by omega, w', ρ', η', e', r', q'⟩, fun v H3 hy => ?_⟩
            obtain ⟨e3, hr3, rv⟩ := y v H3 hy
            dsimp only at p2
            cases eb : b x ρ2 with
            | none => rw [eb] at p2; exact p2.elim
            | some ρ3 =>
              rw [eb] at p2
              refine ⟨w2, ρ2, x, ρ3, rel2.env.ext e3, rv, eb, fun σ3 er3 _ _ => ?_⟩
              exact turn_reads ⟨er3, hr3⟩ (PostS.weak e3 p2) fun ρ' η' σ' w' H' e' r' q' => ⟨w', ρ', η', (e2.trans e3).trans e', r', q'⟩
theorem ds_for {N : Nat} {tg iter : Expr} {body : List Stmt} {fi : FI} {sl : List Nat} {b : TGt} (hp : PassesOwn (model X.prog X.w) X.A X.env X.xe) (hc : X.calm = true) (hi : DI X W tg iter fi) (hg : DG X sl tg b) (hb : DSs X W body fs)
    (hs : ∀ x, foldedSetIterable iter X.env x = pure x := by intro _; rfl) : DS X W (.For tg iter body [] pos) (sFor N fi b fs) := PS.imp (ps_for hp hc hi hg hb hs) fun _ _ _ => for_reads
/-! ### while -/
def whl (c : FT) (body : FS) : Nat → Env → Store → RS
  | 0, _, _ => .no
  | m + 1, ρ, η => (c ρ η).bindS ρ fun b η => if b = true then (match body ρ η with
      | .nx ρ η => whl c body m ρ η
      | .cnt ρ η => whl c body m ρ η
      | .brk ρ η => .nx ρ η
      | r => r) else .nx ρ η
theorem ds_while {N : Nat} {body : List Stmt} (hp : PassesOwn (model X.prog X.w) X.A X.env X.xe) (hc : DT X W c s) (hb : DSs X W body fs) : DS X W (.While c body [] pos) (whl s fs N) :=
  PS.imp (ps_while hp hc hb) fun E σ H ⟨w, ρ, η, rel, p⟩ => by
    refine ⟨fun m σ H => ∃ w ρ η, Rel X.K w σ H ρ η ∧ PostS X.K w H E W (whl s fs m ρ η), ⟨N, w, ρ, η, rel, p⟩, fun m σ2 H2 ⟨w2, ρ2, η2, rel2, p2⟩ => ?_⟩
    cases m with
    | zero => exact p2.elim
    | succ m =>
      dsimp only [whl] at p2
      obtain ⟨w3, ρ3, η3, rel3, q⟩ := rdT_thenS rel2 p2
      refine ⟨w3, ρ3, η3, rel3, q.imp fun b H1 ⟨w1, η1, e, rel1, p1⟩ => ?_⟩
      cases b with
      | false => exact iteF (p1 σ2 w1 H1 .refl rel1)
      | true =>
        refine iteT ⟨fun σ' H' => ∃ w ρ η, Rel X.K w σ' H' ρ η ∧ PostS X.K w H' E W (whl s fs m ρ η), fun σ' H' ⟨w', ρ', η', r', q'⟩ => ⟨m, by omega, w', ρ', η', r', q'⟩, ?_⟩
        exact turn_reads rel1 p1 fun ρ' η' σ' w' H' e' r' q' => ⟨w', ρ', η', r', q'⟩

/-! ### list comprehensions -/
def wipeD (ρ : Env) : List Nat → Env
  | [] => ρ
  | v :: vs => (wipeD ρ vs).set v none
theorem EnvRel.wipe (h : EnvRel K w σ H ρ) : ∀ vs : List Nat, EnvRel K w (wipe σ vs) H (wipeD ρ vs)
  | [] => h
  | v :: vs => by
    have ih := EnvRel.wipe h vs
    refine ⟨by simp [wipeD, L2.wipe, ih.len], fun i d e => ?_⟩
    dsimp only [wipeD, L2.wipe] at e ⊢
    by_cases hi : i = v
    · subst hi
      rw [List.getElem?_set] at e
      simp at e
    · rw [List.getElem?_set_ne (Ne.symm hi)] at e ⊢
      exact ih.at_ i d e
/-- an error within is none of ours -/
def nx {α : Type} : R α → R α
  | .ok a η => .ok a η
  | _ => .no
def cmp (b : TGt) (t : FT) (e : FE) (ρ : Env) : List D → Store → R (List D)
  | [], η => .ok [] η
  | x :: r, η => match b x ρ with
    | none => .no
    | some ρ1 => (t ρ1 η).bind fun k η => if k = true then (e ρ1 η).bind fun y η => (cmp b t e ρ r η).bind fun ys η => .ok (y :: ys) η else cmp b t e ρ r η
def cmpO (b : TGt) (t : FT) (e : FE) (ρ : Env) (at_ : Nat → Store → Option (Option D)) : Nat → Nat → Store → R (List D)
  | 0, _, _ => .no
  | m + 1, i, η => match at_ i η with
    | none => .no
    | some none => .ok [] η
    | some (some x) => match b x ρ with
        | none => .no
        | some ρ1 => (t ρ1 η).bind fun q η => if q = true then (e ρ1 η).bind fun y η => (cmpO b t e ρ at_ m (i + 1) η).bind fun ys η => .ok (y :: ys) η else cmpO b t e ρ at_ m (i + 1) η
def cmpS (N : Nat) (src : Src) (b : TGt) (t : FT) (e : FE) (ρ : Env) (η : Store) : R (List D) := match src with
  | .val xs => cmp b t e ρ xs η
  | .dyn f => cmpO b t e ρ f N 0 η
def yes : FT := fun _ η => .ok true η
/-- the list as a value -/
def lc (N : Nat) (vs : List Nat) (fi : FI) (b : TGt) (t : FT) (e : FE) : FE := fun ρ η => (fi ρ η).bind fun src η => (nx (cmpS N src b t e (wipeD ρ vs) η)).bind fun ys η => if ys.length ≤ sizeLine then .ok (.lst ys) η else .no
/-- the list as a thing that may change -/
def lcO (N : Nat) (vs : List Nat) (fi : FI) (b : TGt) (t : FT) (e : FE) : FE := fun ρ η => (fi ρ η).bind fun src η => (nx (cmpS N src b t e (wipeD ρ vs) η)).bind fun ys η => if ys.length ≤ sizeLine then .ok (.obj η.length) (η ++ [.lst ys]) else .no
abbrev WF : WX := fun _ _ _ _ => False
end
end Dn
/-! Dn part 4: comprehensions read; defs. -/
namespace Dn
open PySem PySem.Spec PyProof.Rows L2
section
variable {X : Cx} {W : WX} {K : PySem.W.Frag} {w w1 w2 w' : Wd} {σ : L2.St} {H H1 H2 H' : Hp} {ρ ρ0 : Env} {η η1 η' : Store} {f te : FE} {s : FT} {vs sl : List Nat} {b : TGt} {ys : List D} {Dd : Addr}
/-- a list that is being made changes -/
theorem Mv.busy {o : HO} (hb : Dd ∈ w.bz) : Mv w H w (upd H Dd o) := ⟨⟨[], by simp⟩, fun c u h _ m n => ⟨by
  rw [upd_ne]
  · exact h
  · intro q; subst q; exact n hb, m, n⟩⟩
theorem Ext.busy {o : HO} (ex : Ext w1 H1 w H) (hn : H1 Dd = none) (hb1 : Dd ∉ w1.bz) : Ext w1 H1 w (upd H Dd o) :=
  ⟨⟨ex.pre, fun c u h k m n => let ⟨a1, a2, a3⟩ := ex.keep c u h k m n; ⟨by rw [upd_ne (ne_of_none h hn)]; exact a1, a2, a3⟩⟩, fun c hc => ⟨(ex.bz c hc).1, by
    rw [upd_ne]
    · exact (ex.bz c hc).2
    · intro q; subst q; exact hb1 hc⟩, fun c od u h => by rw [upd_ne (ne_of_none h hn)]; exact ex.fz c od u h⟩
theorem HeapRel.busy {o : HO} (ho : Ny o) (hr : HeapRel K w H η) (hb : Dd ∈ w.bz) : HeapRel K w (upd H Dd o) η := by
  refine ⟨hr.len, hr.nd, fun i a ob ha ho => (hr.at_ i a ob ha ho).mv (Mv.busy hb) ?_, fun c hc => ⟨(hr.bz c hc).1, ?_⟩, let ⟨_, _, f, k⟩ := hr.bz _ hb; tabs_upd hr.tb f k⟩
  · rw [upd_ne]
    intro q; subst q
    exact (hr.bz _ hb).1 (List.mem_of_getElem? ha)
  · by_cases q : c = Dd
    · subst q; exact ⟨_, upd_same, ho⟩
    · rw [upd_ne q]; exact (hr.bz c hc).2
/-- inside: worlds w1 (ahead), then on; the list at Dd is being made -/
structure Mk (K : PySem.W.Frag) (w1 : Wd) (H1 : Hp) (ρ0 : Env) (Dd : Addr) (η' : Store) (ys : List D) (rest : Store → R (List D)) (H : Hp) : Prop where
  ex : ∃ w η acc accV ys', Ext w1 H1 w H ∧ Dd ∈ w.bz ∧ HeapRel K w H η ∧ H Dd = some (.lst accV) ∧ RepVs K w H accV acc ∧ rest η = .ok ys' η' ∧ acc ++ ys' = ys
theorem ok_bind {α β : Type} {r : R α} {k : α → Store → R β} {a : β} {η : Store} (h : r.bind k = .ok a η) : ∃ x η1, r = .ok x η1 ∧ k x η1 = .ok a η := by
  cases r with
  | ok x η1 => exact ⟨x, η1, rfl, h⟩
  | exc x η1 => cases h
  | no => cases h
theorem wipe_eq {σ1 σ2 : L2.St} (hl : σ2.length = σ1.length) : ∀ {vs : List Nat}, (∀ j, j ∉ vs → σ2[j]? = σ1[j]?) → wipe σ2 vs = wipe σ1 vs := by
  intro vs h
  have one : ∀ (vs : List Nat) (j : Nat), j ∈ vs → j < σ1.length → (wipe σ2 vs)[j]? = (wipe σ1 vs)[j]? := by
    intro vs
    induction vs with
    | nil => intro j hj; cases hj
    | cons v vs ih =>
      intro j hj hlt
      dsimp only [wipe]
      by_cases e : j = v
      · subst e
        rw [List.getElem?_set_self (by rw [wipe_length, hl]; exact hlt), List.getElem?_set_self (by rw [wipe_length]; exact hlt)]
      · rw [List.getElem?_set_ne (Ne.symm e), List.getElem?_set_ne (Ne.symm e)]
        rcases List.mem_cons.mp hj with q | q
        · exact absurd q e
        · exact ih j q hlt
  refine List.ext_getElem? fun j => ?_
  by_cases hj : j ∈ vs
  · by_cases hlt : j < σ1.length
    · exact one vs j hj hlt
    · rw [List.getElem?_eq_none (by rw [wipe_length, hl]; omega), List.getElem?_eq_none (by rw [wipe_length]; omega)]
  · rw [wipe_out hj, wipe_out hj]; exact h j hj
/-- one turn -/
theorem mk_turn (hn : H1 Dd = none) (hb1 : Dd ∉ w1.bz) {rest : Store → R (List D)} {x : D} {v : V} {ys' acc : List D} {accV : List V} {ρ1 : Env} (hsub : ∀ j ∈ sl, j ∈ vs) (env : EnvRel K w (wipe σ vs) H ρ0) (ex : Ext w1 H1 w H) (hb : Dd ∈ w.bz) (hr : HeapRel K w H η)
    (hD : H Dd = some (.lst accV)) (ra : RepVs K w H accV acc) (rv : RepV K w H v x) (eb : b x ρ0 = some ρ1) (hz : ys.length ≤ sizeLine)
    (hs : ((s ρ1 η).bind fun q η => if q = true then (te ρ1 η).bind fun y η => (rest η).bind fun ys η => .ok (y :: ys) η else rest η) = .ok ys' η') (ey : acc ++ ys' = ys) :
    rdG K sl b v (wipe σ vs) H fun σ2 H2 => wipe σ2 vs = wipe σ vs ∧ rdT K WF s σ2 H2 fun b H3 =>
      if b = true then rdE K WF te σ2 H3 fun y H4 => ∃ acc, H4 Dd = some (.lst acc) ∧ acc.length < sizeLine ∧ Mk K w1 H1 ρ0 Dd η' ys rest (upd H4 Dd (.lst (acc ++ [y]))) else Mk K w1 H1 ρ0 Dd η' ys rest H3 := by
  refine ⟨w, ρ0, x, ρ1, env, rv, eb, fun σ2 er2 hl hf => ⟨?_, ?_⟩⟩
  · have e1 : wipe σ2 vs = wipe (wipe σ vs) vs := wipe_eq hl fun j hj => hf j fun z => hj (hsub j z)
    rw [e1]
    refine wipe_eq (wipe_length _ _) fun j hj => ?_
    rw [wipe_out hj]
  · obtain ⟨q, η2, e1, e2⟩ := ok_bind hs
    refine ⟨w, ρ1, η, ⟨er2, hr⟩, ?_⟩
    rw [e1]
    intro q' w3 H3 e3 hr3 eq
    subst eq
    have hb3 := (e3.bz Dd hb).1
    have hD3 : H3 Dd = some (.lst accV) := (e3.bz Dd hb).2.trans hD
    cases q' with
    | false => exact iteF ⟨w3, η2, acc, accV, ys', ex.trans e3, hb3, hr3, hD3, ra.ext e3, e2, ey⟩
    | true =>
      rw [if_pos rfl] at e2
      obtain ⟨y, η3, f1, f2⟩ := ok_bind e2
      obtain ⟨zs, η4, g1, g2⟩ := ok_bind f2
      cases g2
      refine iteT ⟨w3, ρ1, η2, ⟨er2.ext e3, hr3⟩, ?_⟩
      rw [f1]
      intro vy w4 H4 e4 hr4 rvy
      have hb4 := (e4.bz Dd hb3).1
      have hD4 : H4 Dd = some (.lst accV) := (e4.bz Dd hb3).2.trans hD3
      have ra4 : RepVs K w4 H4 accV acc := (ra.ext e3).ext e4
      have hlt : accV.length < sizeLine := by
        have : acc.length + 1 + zs.length ≤ sizeLine := by
          rw [← ey] at hz
          simp at hz
          omega
        rw [ra4.length]; omega
      refine ⟨accV, hD4, hlt, ⟨w4, η3, acc ++ [y], accV ++ [vy], zs, ?_, hb4, ?_, upd_same, ?_, g1, by rw [← ey]; simp⟩⟩
      · exact ((ex.trans e3).trans e4).busy hn hb1
      · exact hr4.busy ny_lst hb4
      · exact (ra4.append (.one rvy)).mv (Mv.busy hb4)
/-- the making begins -/
theorem mk_start {r : Store → R (List D)} (hr : HeapRel K w1 H1 η1) (hn : H1 Dd = none) (e : r η1 = .ok ys η') : Mk K w1 H1 ρ0 Dd η' ys r (upd H1 Dd (.lst [])) := by
  have hnn := hr.new hn
  refine ⟨⟨w1.io, Dd :: w1.bz⟩, η1, [], [], ys, ?_, List.mem_cons_self, ?_, upd_same, .nil, e, rfl⟩
  · exact ⟨⟨⟨[], by simp⟩, fun c u h _ m n => ⟨by rw [upd_ne (ne_of_none h hn)]; exact h, m, fun q => by
      rcases List.mem_cons.mp q with q | q
      · subst q; rw [hn] at h; cases h
      · exact n q⟩⟩, fun c hc => ⟨List.mem_cons_of_mem _ hc, by obtain ⟨_, u, f, _⟩ := hr.bz c hc; rw [upd_ne (ne_of_none f hn)]⟩, fun c od u h => by rw [upd_ne (ne_of_none h hn)]; exact h⟩
  · have m : Mv w1 H1 ⟨w1.io, Dd :: w1.bz⟩ (upd H1 Dd (.lst [])) := ⟨⟨[], by simp⟩, fun c u h _ m n => ⟨by rw [upd_ne (ne_of_none h hn)]; exact h, m, fun q => by
      rcases List.mem_cons.mp q with q | q
      · subst q; rw [hn] at h; cases h
      · exact n q⟩⟩
    refine ⟨hr.len, hr.nd, fun i a ob ha ho => (hr.at_ i a ob ha ho).mv m (upd_ne ?_), fun c hc => ?_, tabs_new hr.tb hn⟩
    · intro q; subst q; exact hnn.1 (List.mem_of_getElem? ha)
    · rcases List.mem_cons.mp hc with q | q
      · subst q; exact ⟨hnn.1, _, upd_same, ny_lst⟩
      · obtain ⟨n, u, f, k⟩ := hr.bz c q
        exact ⟨n, u, by rw [upd_ne (ne_of_none f hn)]; exact f, k⟩
/-- the list is made: a value -/
theorem mk_done {ρ0 : Env} {Q : VK} (hr1 : HeapRel K w1 H1 η1) (hn : H1 Dd = none) (ex : Ext w1 H1 w H) (hb : Dd ∈ w.bz) (hr : HeapRel K w H η) {accV : List V} (hD : H Dd = some (.lst accV)) (ra : RepVs K w H accV ys)
    (q : ∀ v w' H', Ext w1 H1 w' H' → HeapRel K w' H' η → RepV K w' H' v (.lst ys) → Q v H') : Q (.ref Dd) H := by
  have hbs : ∀ c ∈ w1.bz, c ∈ w.bz := fun c hc => (ex.bz c hc).1
  have m : Mv w H ⟨w.io, w1.bz⟩ H := ⟨⟨[], by simp⟩, fun c u h _ m n => ⟨h, m, fun z => n (hbs c z)⟩⟩
  refine q _ ⟨w.io, w1.bz⟩ H ?_ ?_ (.lst ⟨hD, (hr.bz _ hb).1, (hr1.new hn).2⟩ (ra.mv m))
  · exact ⟨⟨ex.pre, fun c u h k m n => let ⟨a1, a2, a3⟩ := ex.keep c u h k m n; ⟨a1, a2, n⟩⟩, fun c hc => ⟨hc, (ex.bz c hc).2⟩, ex.fz⟩
  · exact ⟨hr.len, hr.nd, fun i a ob ha ho => (hr.at_ i a ob ha ho).mv m rfl, fun c hc => hr.bz c (hbs c hc), hr.tb⟩
/-- .. a thing that may change -/
theorem mk_doneO {ρ0 : Env} {Q : VK} (hr1 : HeapRel K w1 H1 η1) (hn : H1 Dd = none) (ex : Ext w1 H1 w H) (hb : Dd ∈ w.bz) (hr : HeapRel K w H η) {accV : List V} (hD : H Dd = some (.lst accV)) (ra : RepVs K w H accV ys)
    (q : ∀ v w' H', Ext w1 H1 w' H' → HeapRel K w' H' (η ++ [.lst ys]) → RepV K w' H' v (.obj η.length) → Q v H') : Q (.ref Dd) H := by
  have hbs : ∀ c ∈ w1.bz, c ∈ w.bz := fun c hc => (ex.bz c hc).1
  have hnb := (hr1.new hn).2
  have m : Mv w H ⟨w.io ++ [Dd], w1.bz⟩ H := ⟨⟨[Dd], rfl⟩, fun c u h _ m n => ⟨h, fun z => by
    rcases List.mem_append.mp z with z | z
    · exact m z
    · have e : c = Dd := by simpa using z
      subst e; exact n hb, fun z => n (hbs c z)⟩⟩
  refine q _ ⟨w.io ++ [Dd], w1.bz⟩ H ?_ ?_ (.obj ?_)
  · exact ⟨⟨by obtain ⟨t, e⟩ := ex.pre; exact ⟨t ++ [Dd], by show w.io ++ [Dd] = _; rw [e, List.append_assoc]⟩, fun c u h k m n => let ⟨a1, a2, a3⟩ := ex.keep c u h k m n; ⟨a1, (by
      intro z
      rcases List.mem_append.mp z with z | z
      · exact a2 z
      · have e : c = Dd := by simpa using z
        subst e; rw [hn] at h; cases h), n⟩⟩, fun c hc => ⟨hc, (ex.bz c hc).2⟩, ex.fz⟩
  · refine ⟨by simp [hr.len], ?_, fun i a ob ha ho => ?_, fun c hc => ⟨fun z => ?_, (hr.bz c (hbs c hc)).2⟩, hr.tb⟩
    · exact List.nodup_append.mpr ⟨hr.nd, by simp, fun a ha c hc => by
        have e : c = Dd := by simpa using hc
        subst e
        intro z; subst z
        exact (hr.bz _ hb).1 ha⟩
    · by_cases hi : i < w.io.length
      · rw [List.getElem?_append_left hi] at ha
        rw [List.getElem?_append_left (hr.len ▸ hi)] at ho
        exact (hr.at_ i a ob ha ho).mv m rfl
      · have hi' : i = w.io.length := by
          have := (List.getElem?_eq_some_iff.mp ha).1
          simp at this; omega
        subst hi'
        rw [List.getElem?_append_right (Nat.le_refl _)] at ha
        rw [hr.len, List.getElem?_append_right (Nat.le_refl _)] at ho
        simp at ha ho
        subst ha ho
        exact ⟨accV, hD, ra.mv m⟩
    · rcases List.mem_append.mp z with z | z
      · exact (hr.bz c (hbs c hc)).1 z
      · have e : c = Dd := by simpa using z
        subst e; exact hnb hc
  · show (w.io ++ [Dd])[η.length]? = some Dd
    rw [← hr.len, List.getElem?_append_right (Nat.le_refl _)]
    simp
theorem nx_ok {r : R (List D)} {ys : List D} (h : nx r = .ok ys η') : r = .ok ys η' := by
  cases r <;> simp_all [nx]
/-- the whole comprehension, up to its end -/
theorem lc_reads {N : Nat} {fi : FI} {Q : VK} {k : List D → Store → R D} (hsub : ∀ j ∈ sl, j ∈ vs)
    (h : rdE K W (fun ρ η => (fi ρ η).bind fun src η => (nx (cmpS N src b s te (wipeD ρ vs) η)).bind fun ys η => if ys.length ≤ sizeLine then k ys η else .no) σ H Q)
    (fin : ∀ {w1 w : Wd} {H1 H : Hp} {η1 η : Store} {Dd : Addr} {accV : List V} {ys : List D}, HeapRel K w1 H1 η1 → H1 Dd = none → Ext w1 H1 w H → Dd ∈ w.bz → HeapRel K w H η → H Dd = some (.lst accV) → RepVs K w H accV ys →
      Post K (RepV K) w1 H1 Q (fun c d H' => W c d σ H') (k ys η) → Q (.ref Dd) H) :
    tLc (rdI K W fi) (rdG K sl b) (rdT K WF s) (rdE K WF te) vs σ H Q := by
  obtain ⟨w, ρ, η, rel, p⟩ := h
  refine ⟨w, ρ, η, rel, (Post.bind (rep := fun w H J src => ItOk K J src w H) p).imp fun J H1 ⟨w1, src, η1, e1, hr1, io, p1⟩ => ?_⟩
  intro Dd hn
  have hb1 := (hr1.new hn).2
  cases ec : nx (cmpS N src b s te (wipeD ρ vs) η1) with
  | exc x η' => exfalso; revert ec; cases cmpS N src b s te (wipeD ρ vs) η1 <;> simp [nx]
  | no => rw [ec] at p1; exact p1.elim
  | ok ys η' =>
    rw [ec] at p1
    replace p1 : Post K (RepV K) w1 H1 Q (fun c d H' => W c d σ H') (if ys.length ≤ sizeLine then k ys η' else .no) := p1
    split at p1
    case isFalse => exact p1.elim
    rename_i hz
    have ec := nx_ok ec
    have env0 : ∀ w' H', Ext w1 H1 w' H' → EnvRel K w' (wipe σ vs) H' (wipeD ρ vs) := fun w' H' e => ((rel.env.ext e1).ext e).wipe vs
    cases src with
    | val xs =>
      refine ⟨fun i m H => (m = xs.length - i ∧ i ≤ xs.length) ∧ Mk K w1 H1 (wipeD ρ vs) Dd η' ys (cmp b s te (wipeD ρ vs) (xs.drop i)) H, ⟨_, ⟨rfl, Nat.zero_le _⟩, mk_start hr1 hn ec⟩, fun i m H2 ⟨⟨em, hi⟩, ⟨w2, η2, acc, accV, ys', ex, hb, hr2, hD, ra, er, ey⟩⟩ => ?_⟩
      cases exi : xs[i]? with
      | none =>
        have hl : xs.length ≤ i := List.getElem?_eq_none_iff.mp exi
        rw [List.drop_eq_nil_of_le hl] at er
        cases er
        simp at ey
        subst ey
        exact .inl ⟨io.stop i w2 H2 η' ex hr2 (Nat.le_antisymm hl hi), fin hr1 hn ex hb hr2 hD ra p1⟩
      | some x =>
        obtain ⟨hl, ex'⟩ := List.getElem?_eq_some_iff.mp exi
        have ed : xs.drop i = x :: xs.drop (i + 1) := by rw [List.drop_eq_getElem_cons hl, ex']
        rw [ed] at er
        obtain ⟨g, y⟩ := io.go i w2 H2 η2 x ex hr2 exi
        refine .inr ⟨g, Mk K w1 H1 (wipeD ρ vs) Dd η' ys (cmp b s te (wipeD ρ vs) (xs.drop (i + 1))), fun H' q => ⟨xs.length - (i + 1), by omega, ⟨rfl, hl⟩, q⟩, fun v H3 hy => ?_⟩
        obtain ⟨e3, hr3, rv⟩ := y v H3 hy
        dsimp only [cmp] at er
        cases eb : b x (wipeD ρ vs) with
        | none => rw [eb] at er; cases er
        | some ρ3 =>
          rw [eb] at er
          exact mk_turn hn hb1 hsub (env0 _ _ (ex.trans e3)) (ex.trans e3) (e3.bz _ hb).1 hr3 ((e3.bz _ hb).2.trans hD) (ra.ext e3) rv eb hz er ey
    | dyn f =>
      refine ⟨fun i m H => Mk K w1 H1 (wipeD ρ vs) Dd η' ys (cmpO b s te (wipeD ρ vs) f m i) H, ⟨_, mk_start hr1 hn ec⟩, fun i m H2 ⟨w2, η2, acc, accV, ys', ex, hb, hr2, hD, ra, er, ey⟩ => ?_⟩
      cases m with
      | zero => cases er
      | succ m =>
        dsimp only [cmpO] at er
        cases eo : f i η2 with
        | none => rw [eo] at er; cases er
        | some ob =>
          rw [eo] at er
          cases ob with
          | none =>
            cases er
            simp at ey
            subst ey
            exact .inl ⟨io.stop i w2 H2 η' ex hr2 eo, fin hr1 hn ex hb hr2 hD ra p1⟩
          | some x =>
              obtain ⟨g, y⟩ := io.go i w2 H2 η2 x ex hr2 (by dsimp only [Src.at]; rw [eo])
              refine .inr ⟨g, Mk K w1 H1 (wipeD ρ vs) Dd η' ys (cmpO b s te (wipeD ρ vs) f m (i + 1)), fun H' q => ⟨m, by omega, q⟩, fun v H3 hy => ?_⟩
              obtain ⟨e3, hr3, rv⟩ := y v H3 hy
              dsimp only at er
              cases eb : b x (wipeD ρ vs) with
              | none => rw [eb] at er; cases er
              | some ρ3 =>
                rw [eb] at er
                exact mk_turn hn hb1 hsub (env0 _ _ (ex.trans e3)) (ex.trans e3) (e3.bz _ hb).1 hr3 ((e3.bz _ hb).2.trans hD) (ra.ext e3) rv eb hz er ey
theorem lcV_reads {N : Nat} {fi : FI} {Q : VK} (hsub : ∀ j ∈ sl, j ∈ vs) (h : rdE K W (lc N vs fi b s te) σ H Q) : tLc (rdI K W fi) (rdG K sl b) (rdT K WF s) (rdE K WF te) vs σ H Q :=
  lc_reads hsub h fun hr1 hn ex hb hr hD ra p => mk_done (ρ0 := []) hr1 hn ex hb hr hD ra p
theorem lcO_reads {N : Nat} {fi : FI} {Q : VK} (hsub : ∀ j ∈ sl, j ∈ vs) (h : rdE K W (lcO N vs fi b s te) σ H Q) : tLc (rdI K W fi) (rdG K sl b) (rdT K WF s) (rdE K WF te) vs σ H Q :=
  lc_reads hsub h fun hr1 hn ex hb hr hD ra p => mk_doneO (ρ0 := []) hr1 hn ex hb hr hD ra p
section
variable {N : Nat} {elt tg iter : Expr} {ifs : List Expr} {scope : Scope} {own : List (Str × Nat)} {pos spos : Pos} {fi : FI}
/-- [elt for tg in iter if ..], a value -/
theorem de_lc (hc : X.calm = true) (hN : X.N.Nodup) (hi : DI X W tg iter fi) (ok : BlkOk X.N X.env.scope scope own)
    (hg : ∀ (s : Shared) (H : Hp) (C : Addr) (cl : List (Str × Addr)) (fp : List Addr), DG (X.blk s H scope (compEnvC scope cl C X.env) fp) sl tg b) (ht : ∀ (s' : Shared) (H : Hp) (C : Addr) (cl : List (Str × Addr)) (fp : List Addr), PTs (X.blk s' H scope (compEnvC scope cl C X.env) fp) ifs (rdT X.K WF s))
    (he : ∀ (s : Shared) (H : Hp) (C : Addr) (cl : List (Str × Addr)) (fp : List Addr), DE (X.blk s H scope (compEnvC scope cl C X.env) fp) WF elt te) (hsub : ∀ j ∈ sl, j ∈ own.map (·.2) := by decide) (hs : ∀ x, foldedSetIterable iter X.env x = pure x := by intro _; rfl) :
    DE X W (.ListComp elt [⟨tg, iter, ifs, 0⟩] scope pos) (lc N (own.map (·.2)) fi b s te) := PE.imp (pe_lc hc hN hi ok hg ht he hs) fun _ _ _ => lcV_reads hsub
theorem de_lcO (hc : X.calm = true) (hN : X.N.Nodup) (hi : DI X W tg iter fi) (ok : BlkOk X.N X.env.scope scope own)
    (hg : ∀ (s : Shared) (H : Hp) (C : Addr) (cl : List (Str × Addr)) (fp : List Addr), DG (X.blk s H scope (compEnvC scope cl C X.env) fp) sl tg b) (ht : ∀ (s' : Shared) (H : Hp) (C : Addr) (cl : List (Str × Addr)) (fp : List Addr), PTs (X.blk s' H scope (compEnvC scope cl C X.env) fp) ifs (rdT X.K WF s))
    (he : ∀ (s : Shared) (H : Hp) (C : Addr) (cl : List (Str × Addr)) (fp : List Addr), DE (X.blk s H scope (compEnvC scope cl C X.env) fp) WF elt te) (hsub : ∀ j ∈ sl, j ∈ own.map (·.2) := by decide) (hs : ∀ x, foldedSetIterable iter X.env x = pure x := by intro _; rfl) :
    DE X W (.ListComp elt [⟨tg, iter, ifs, 0⟩] scope pos) (lcO N (own.map (·.2)) fi b s te) := PE.imp (pe_lc hc hN hi ok hg ht he hs) fun _ _ _ => lcO_reads hsub
/-- name = [..] -/
theorem ds_setLc (i : Nat) {y : Str} {py : Pos} (hc : X.calm = true) (hN : X.N.Nodup) (hsw : swapsWith (.ListComp elt [⟨tg, iter, ifs, 0⟩] scope pos) (some (.Name y py)) spos.line X.env = pure true) (hi : DI X W tg iter fi) (ok : BlkOk X.N X.env.scope scope own)
    (hg : ∀ (s : Shared) (H : Hp) (C : Addr) (cl : List (Str × Addr)) (fp : List Addr), DG (X.blk s H scope (compEnvC scope cl C X.env) fp) sl tg b) (ht : ∀ (s' : Shared) (H : Hp) (C : Addr) (cl : List (Str × Addr)) (fp : List Addr), PTs (X.blk s' H scope (compEnvC scope cl C X.env) fp) ifs (rdT X.K WF s))
    (he : ∀ (s : Shared) (H : Hp) (C : Addr) (cl : List (Str × Addr)) (fp : List Addr), DE (X.blk s H scope (compEnvC scope cl C X.env) fp) WF elt te) (hsub : ∀ j ∈ sl, j ∈ own.map (·.2) := by decide) (hy : X.N[i]? = some y := by rfl) (hyl : X.env.scope.names.lookup y = some .local := by rfl) (hs : ∀ x, foldedSetIterable iter X.env x = pure x := by intro _; rfl) :
    DS X W (.Assign [.Name y py] (.ListComp elt [⟨tg, iter, ifs, 0⟩] scope pos) spos) (sAsg (lc N (own.map (·.2)) fi b s te) (bN i)) :=
  PS.imp (ps_setLc hc hN hy hyl hsw hi ok hg ht he hs) fun E σ H ⟨w, ρ, η, rel, p⟩ => lcV_reads hsub ((rdE_thenS rel p).imp fun v H1 ⟨w1, d, η1, e, rel1, rv, p1⟩ => p1 _ w1 H1 .refl ⟨rel1.env.set rv, rel1.heap⟩)
theorem ds_setLcO (i : Nat) {y : Str} {py : Pos} (hc : X.calm = true) (hN : X.N.Nodup) (hsw : swapsWith (.ListComp elt [⟨tg, iter, ifs, 0⟩] scope pos) (some (.Name y py)) spos.line X.env = pure true) (hi : DI X W tg iter fi) (ok : BlkOk X.N X.env.scope scope own)
    (hg : ∀ (s : Shared) (H : Hp) (C : Addr) (cl : List (Str × Addr)) (fp : List Addr), DG (X.blk s H scope (compEnvC scope cl C X.env) fp) sl tg b) (ht : ∀ (s' : Shared) (H : Hp) (C : Addr) (cl : List (Str × Addr)) (fp : List Addr), PTs (X.blk s' H scope (compEnvC scope cl C X.env) fp) ifs (rdT X.K WF s))
    (he : ∀ (s : Shared) (H : Hp) (C : Addr) (cl : List (Str × Addr)) (fp : List Addr), DE (X.blk s H scope (compEnvC scope cl C X.env) fp) WF elt te) (hsub : ∀ j ∈ sl, j ∈ own.map (·.2) := by decide) (hy : X.N[i]? = some y := by rfl) (hyl : X.env.scope.names.lookup y = some .local := by rfl) (hs : ∀ x, foldedSetIterable iter X.env x = pure x := by intro _; rfl) :
    DS X W (.Assign [.Name y py] (.ListComp elt [⟨tg, iter, ifs, 0⟩] scope pos) spos) (sAsg (lcO N (own.map (·.2)) fi b s te) (bN i)) :=
  PS.imp (ps_setLc hc hN hy hyl hsw hi ok hg ht he hs) fun E σ H ⟨w, ρ, η, rel, p⟩ => lcO_reads hsub ((rdE_thenS rel p).imp fun v H1 ⟨w1, d, η1, e, rel1, rv, p1⟩ => p1 _ w1 H1 .refl ⟨rel1.env.set rv, rel1.heap⟩)
theorem dts_nil : PTs X [] (rdT X.K W yes) := ⟨fun pins s σ H Q I ⟨w, ρ, η, rel, p⟩ => (pts_nil).run pins s σ H Q I (p true w H .refl rel.heap rfl)⟩
theorem dts_one {c : Expr} (h : DT X W c s) : PTs X [c] (rdT X.K W s) := pts_one h
end
end
end Dn
/-! Dn part 5: defs; what a call leaves is forgotten. -/
namespace Dn
open PySem PySem.Spec PyProof.Rows L2
/-- a def's body as a function -/
def runF (n : Nat) (b : FS) : FF := fun ds η => match b (ds.map some ++ List.replicate (n - ds.length) none) η with
  | .nx _ η => .ok .non η
  | .ret d η => .ok d η
  | .exc x _ η => .exc x η
  | _ => .no
section
variable {P : Program} {w : World} {K : PySem.W.Frag} {mg : Str → Option Value} {base : Heap} {x qual : Str} {params : Arguments} {body : List Stmt} {scope : Scope} {f : Addr} {fd : FuncData}
theorem envRel_start {wd : Wd} {H : Hp} {N : List Str} {vs : List V} {ds : List D} (r : RepVs K wd H vs ds) : EnvRel K wd (L2.start N vs) H (ds.map some ++ List.replicate (N.length - ds.length) none) := by
  refine ⟨by simp [L2.start, r.length], fun i d e => ?_⟩
  unfold L2.start
  by_cases hi : i < ds.length
  · rw [List.getElem?_append_left (by simpa using hi), List.getElem?_map] at e
    cases ed : ds[i]? with
    | none => rw [ed] at e; cases e
    | some d' =>
      rw [ed] at e
      cases e
      obtain ⟨v, ev, rv⟩ := r.get ed
      refine ⟨v, ?_, rv⟩
      rw [List.getElem?_append_left (by simpa [r.length] using hi), List.getElem?_map, ev]
      rfl
  · rw [List.getElem?_append_right (by simpa using hi), List.getElem?_replicate] at e
    split at e <;> cases e
theorem fn_ok {N ps : List Str} {k n : Nat} {b : FS} (F : FunD K x qual params body scope [] [] f fd) (S : FnScope N ps scope) (hn : ps.length = n)
    (hb : ∀ (cdv : Value) (A : Around) (outer : List PySem.Env) (s : Shared) (H : Hp) (E : XK), Room k (A.deeper (envOfC qual scope s.heap.objs.size f cdv)) →
      DSs (cxOf (L2N.CX P w) P w K mg base N qual scope f cdv A outer s H E) (fun c d _ H => E c d H) body b) :
    FnOk P w K mg base (L2N.CX P w) (k + 1) f fd ps (spD K n (runF N.length b)) := by
  refine F.ok S (spD.len hn) fun cdv A outer s H vs Q E hr ⟨wd, η, ds, hh, rv, hl, p⟩ => ⟨_, hb cdv A outer s H E hr, ?_⟩
  refine ⟨wd, _, η, ⟨envRel_start rv, hh⟩, ?_⟩
  unfold runF at p
  cases e : b (ds.map some ++ List.replicate (N.length - ds.length) none) η with
  | nx ρ η' => rw [e] at p; exact fun σ' w' H' e' r => p .non w' H' e' r.heap .non
  | ret d η' => rw [e] at p; exact p
  | exc x ρ η' => rw [e] at p; exact fun c d σ' w' H' e' r rx => p c d w' H' e' r.heap rx
  | brk ρ η' => rw [e] at p; exact p.elim
  | cnt ρ η' => rw [e] at p; exact p.elim
  | no => rw [e] at p; exact p.elim
end

/-! ### trimming -/
mutual
/-- no thing of the store from n on is named -/
def D.low (n : Nat) : D → Bool
  | .obj i => decide (i < n)
  | .tup xs => D.lows n xs
  | .lst xs => D.lows n xs
  | .scr xs => D.lows n xs
  | _ => true
def D.lows (n : Nat) : List D → Bool
  | [] => true
  | x :: xs => D.low n x && D.lows n xs
end
def O.low (n : Nat) : O → Bool
  | .lst xs => D.lows n xs
  | .dK kvs => D.lows n (kvs.map (·.2))
  | .dT kvs => D.lows n (kvs.map (·.2))
  | .ins _ fs => D.lows n (fs.map (·.2))
  | .lkK fs => D.lows n (fs.map (·.2))
  | .lkT fs => D.lows n (fs.map (·.2))
abbrev Wd.cut (w : Wd) (n : Nat) : Wd := ⟨w.io.take n, w.bz⟩
section
variable {K : PySem.W.Frag} {w w1 w2 w' : Wd} {H H1 H2 H' : Hp} {η η' : Store} {n : Nat} {a : Addr}
theorem not_take {n : Nat} (h : a ∉ w.io) : a ∉ (w.cut n).io := fun z => h (List.mem_of_mem_take z)
mutual
theorem RepV.cut (n : Nat) : ∀ {v : V} {d : D}, RepV K w H v d → D.low n d = true → RepV K (w.cut n) H v d
  | _, _, .non, _ => .non
  | _, _, .bl b, _ => .bl b
  | _, _, .int i, _ => .int i
  | _, _, .str x, _ => .str x
  | _, _, .tup h hs, l => .tup ⟨h.1, not_take h.2.1, h.2.2⟩ (RepVs.cut n hs (by simpa [D.low] using l))
  | _, _, .lst h hs, l => .lst ⟨h.1, not_take h.2.1, h.2.2⟩ (RepVs.cut n hs (by simpa [D.low] using l))
  | _, _, .scr h hs, l => .scr (by
      rcases h with ⟨h, m, b⟩ | h
      · exact .inl ⟨h, not_take m, b⟩
      · exact .inr h) (RepVs.cut n hs (by simpa [D.low] using l))
  | _, _, .obj (i := i) h, l => .obj (by
      have hi : i < n := by simpa [D.low] using l
      show (w.io.take n)[i]? = _
      rw [List.getElem?_take_of_lt hi]; exact h)
  | _, _, .gl x, _ => .gl x
  | _, _, .ty m, _ => .ty m
  | _, _, .adr a, _ => .adr a
theorem RepVs.cut (n : Nat) : ∀ {vs : List V} {ds : List D}, RepVs K w H vs ds → D.lows n ds = true → RepVs K (w.cut n) H vs ds
  | _, _, .nil, _ => .nil
  | _, _, .cons h hs, l => by
    have l' := Bool.and_eq_true_iff.mp (show (D.low n _ && D.lows n _) = true from l)
    exact .cons (RepV.cut n h l'.1) (RepVs.cut n hs l'.2)
end
theorem RepO.cut {o : O} (n : Nat) (h : RepO K w H a o) (l : o.low n = true) : RepO K (w.cut n) H a o := by
  cases o with
  | lst ds => obtain ⟨xs, f, r⟩ := h; exact ⟨xs, f, r.cut n l⟩
  | dK ds => obtain ⟨xs, f, r⟩ := h; exact ⟨xs, f, r.1, r.2.cut n l⟩
  | dT ds => obtain ⟨xs, f, r⟩ := h; exact ⟨xs, f, r.1, r.2.cut n l⟩
  | ins c ds => obtain ⟨dx, xs, f, r⟩ := h; exact ⟨dx, xs, f, r.1, r.2.cut n l⟩
  | lkK ds => obtain ⟨od, xs, f, r⟩ := h; exact ⟨od, xs, f, r.1, r.2.cut n l⟩
  | lkT ds => obtain ⟨od, xs, f, r⟩ := h; exact ⟨od, xs, f, r.1, r.2.cut n l⟩
/-- what is told of things of the world ahead stays so in the cut world -/
theorem cut_pre (e : Ext w H w' H') (hn : n = w.io.length) : (w'.cut n).io = w.io := by
  obtain ⟨t, f⟩ := e.pre
  show w'.io.take n = w.io
  rw [f, hn, List.take_left']
  rfl
/-- a store behind a call: each old thing is as it was, or names old things alone -/
def keepS (η η' : Store) : Prop := ∀ i o, i < η.length → η'[i]? = some o → η[i]? = some o ∨ o.low η.length = true
mutual
theorem RepV.isLow : ∀ {v : V} {d : D}, RepV K w H v d → D.low w.io.length d = true
  | _, _, .non => rfl
  | _, _, .bl b => rfl
  | _, _, .int i => rfl
  | _, _, .str x => rfl
  | _, _, .tup h hs => RepVs.isLow hs
  | _, _, .lst h hs => RepVs.isLow hs
  | _, _, .scr h hs => RepVs.isLow hs
  | _, _, .obj h => decide_eq_true (List.getElem?_eq_some_iff.mp h).1
  | _, _, .gl x => rfl
  | _, _, .ty m => rfl
  | _, _, .adr a => rfl
theorem RepVs.isLow : ∀ {vs : List V} {ds : List D}, RepVs K w H vs ds → D.lows w.io.length ds = true
  | _, _, .nil => rfl
  | _, _, .cons h hs => Bool.and_eq_true_iff.mpr ⟨RepV.isLow h, RepVs.isLow hs⟩
end
theorem RepO.isLow {o : O} (h : RepO K w H a o) : o.low w.io.length = true := by
  cases o with
  | lst ds => obtain ⟨xs, f, r⟩ := h; exact r.isLow
  | dK ds => obtain ⟨xs, f, r⟩ := h; exact r.2.isLow
  | dT ds => obtain ⟨xs, f, r⟩ := h; exact r.2.isLow
  | ins c ds => obtain ⟨dx, xs, f, r⟩ := h; exact r.2.isLow
  | lkK ds => obtain ⟨od, xs, f, r⟩ := h; exact r.2.isLow
  | lkT ds => obtain ⟨od, xs, f, r⟩ := h; exact r.2.isLow
/-- the world behind a call, cut to the things that stood ahead -/
theorem HeapRel.cut (hr : HeapRel K w H η) (e : Ext w H w' H') (hr' : HeapRel K w' H' η') (k : keepS η η') : HeapRel K (w'.cut η.length) H' (η'.take η.length) := by
  obtain ⟨t, f⟩ := e.pre
  have hl : η.length ≤ w'.io.length := by rw [f, List.length_append, hr.len]; omega
  have hl' : η.length ≤ η'.length := by rw [← hr'.len]; exact hl
  refine ⟨by simp [hr'.len], (List.take_sublist _ _).nodup hr'.nd, fun i b o hb ho => ?_, fun b hb => ⟨not_take (hr'.bz b hb).1, (hr'.bz b hb).2⟩, hr'.tb⟩
  by_cases hi : i < η.length
  · rw [List.getElem?_take_of_lt hi] at ho
    have hb' : w'.io[i]? = some b := by
      have : (w'.io.take η.length)[i]? = some b := hb
      rw [List.getElem?_take_of_lt hi] at this; exact this
    have r := hr'.at_ i b o hb' ho
    refine r.cut _ ?_
    rcases k i o hi ho with h | h
    · have hw : w.io[i]? = some b := by
        rw [f, List.getElem?_append_left (by rw [hr.len]; exact hi)] at hb'; exact hb'
      have := (hr.at_ i b o hw h).isLow
      rw [hr.len] at this; exact this
    · exact h
  · rw [List.getElem?_eq_none (by simp; omega)] at ho; cases ho
theorem Ext.cut (hr : HeapRel K w H η) (e : Ext w H w' H') : Ext w H (w'.cut η.length) H' :=
  ⟨⟨⟨[], by rw [cut_pre e hr.len.symm]; simp⟩, fun c o h k m n => let ⟨a1, a2, a3⟩ := e.keep c o h k m n; ⟨a1, not_take a2, a3⟩⟩, e.bz, e.fz⟩
/-- an answer in the cut world: a new list is told by value from now on -/
def cutD (n : Nat) (η' : Store) : D → Option D
  | .obj i => if i < n then some (.obj i) else match η'[i]? with
    | some (.lst xs) => if D.lows n xs = true then some (.lst xs) else none
    | _ => none
  | d => if D.low n d = true then some d else none
theorem cutD_ok {v : V} {d d' : D} (hr' : HeapRel K w' H' η') (rv : RepV K w' H' v d) (h : cutD n η' d = some d') : RepV K (w'.cut n) H' v d' := by
  cases d with
  | obj i =>
    cases rv with | obj hb => ?_
    rename_i b
    dsimp only [cutD] at h
    split at h
    · rename_i hi
      cases h
      exact (RepV.obj hb).cut n (decide_eq_true hi)
    · rename_i hi
      split at h
      · rename_i xs eo
        split at h
        · rename_i hl
          cases h
          obtain ⟨ys, eH, r⟩ := hr'.at_ _ _ _ hb eo
          refine .lst ⟨eH, fun z => ?_, fun z => (hr'.bz b z).1 (List.mem_of_getElem? hb)⟩ (r.cut n hl)
          obtain ⟨j, hj, ej⟩ := List.getElem_of_mem z
          have hj' : j < n := by
            have : j < (w'.io.take n).length := hj
            simp at this; omega
          have e1 : w'.io[j]? = some b := by
            have : (w'.io.take n)[j]? = some b := by rw [List.getElem?_eq_getElem hj, ej]
            rw [List.getElem?_take_of_lt hj'] at this; exact this
          have := ix_nd hr'.nd e1 hb
          omega
        · cases h
      · cases h
  | _ =>
    dsimp only [cutD] at h
    split at h
    · rename_i hl
      cases h
      exact rv.cut n hl
    · cases h
/-- seen by a look -/
def keepB (η η' : Store) : Bool := (η'.take η.length).all (O.low η.length)
theorem keepB_ok {η η' : Store} (h : keepB η η' = true) : keepS η η' := fun i o hi e => .inr (List.all_eq_true.mp h o (List.mem_of_getElem? (show (η'.take η.length)[i]? = some o by rw [List.getElem?_take_of_lt hi]; exact e)))
noncomputable instance (η η' : Store) : Decidable (keepS η η') := if h : keepB η η' = true then isTrue (keepB_ok h) else Classical.propDecidable _
/-- what a call made is forgotten -/
noncomputable def trimR (η : Store) : R D → R D
  | .ok d η' => if keepS η η' then (match cutD η.length η' d with
    | some d' => .ok d' (η'.take η.length)
    | none => .ok d η') else .ok d η'
  | .exc ⟨c, none⟩ η' => if keepS η η' then .exc ⟨c, none⟩ (η'.take η.length) else .exc ⟨c, none⟩ η'
  | r => r
noncomputable def trimF (F : FF) : FF := fun ds η => trimR η (F ds η)
theorem trim_post {Q : VK} {E : XK} {r : R D} (hr : HeapRel K w H η) (p : Post K (RepV K) w H Q E (trimR η r)) : Post K (RepV K) w H Q E r := by
  cases r with
  | ok d η' =>
    dsimp only [trimR] at p
    split at p
    · rename_i k
      split at p
      · rename_i d' ed
        exact fun v w' H' e hr' rv => p v _ H' (e.cut hr) (hr.cut e hr' k) (cutD_ok hr' rv ed)
      · exact p
    · exact p
  | exc x η' =>
    obtain ⟨c, fs⟩ := x
    cases fs with
    | none =>
      dsimp only [trimR] at p
      split at p
      · rename_i k
        exact fun cl d w' H' e hr' rx => p cl d _ H' (e.cut hr) (hr.cut e hr' k) rx
      · exact p
    | some fs => exact p
  | no => exact p
theorem fn_trim {P : Program} {wl : World} {K : PySem.W.Frag} {mg : Str → Option Value} {base : Heap} {CX : CXT} {k n : Nat} {f : Addr} {fd : FuncData} {ps : List Str} {F : FF} (h : FnOk P wl K mg base CX k f fd ps (spD K n F)) :
    FnOk P wl K mg base CX k f fd ps (spD K n (trimF F)) :=
  h.imp fun vs H Q E ⟨w, η, ds, hr, rv, hl, p⟩ => ⟨w, η, ds, hr, rv, hl, trim_post hr p⟩
end
/-- for reckoning -/
theorem keepS_refl (η : Store) : keepS η η := fun i o _ h => .inl h
theorem keepS_app (η g : Store) : keepS η (η ++ g) := fun i o hi h => .inl (by rwa [List.getElem?_append_left hi] at h)
theorem keepS_set (η g : Store) (i : Nat) (o : O) (h : o.low η.length = true) : keepS η (η.set i o ++ g) := fun j u hj e => by
  rw [List.getElem?_append_left (by simpa using hj), List.getElem?_set] at e
  split at e
  · split at e
    · cases e; exact .inr h
    · cases e
  · exact .inl e
theorem keepS_set' (η : Store) (i : Nat) (o : O) (h : o.low η.length = true) : keepS η (η.set i o) := by simpa using keepS_set η [] i o h
end Dn
/-! Dn part 6: operations on data. -/
namespace Dn
open PySem PySem.Spec PyProof.Rows L2
section
variable {X : Cx} {W : WX} {K : PySem.W.Frag} {w w' : Wd} {H H' : Hp} {η η' : Store}
theorem op_of {f : Value → Value → Sem Value} {r : R2} {g : G2} (ho : OpR X f r)
    (m : ∀ {x y H} {Q : VK} {w η d1 d2 z η'}, HeapRel X.K w H η → RepV X.K w H x d1 → RepV X.K w H y d2 → g d1 d2 η = some (z, η') → (∀ v w' H', Ext w H w' H' → HeapRel X.K w' H' η' → RepV X.K w' H' v z → Q v H') → r x y H Q) : OpR X f (rd2 X.K g) := by
  intro pins s σ H x y v u Q I rx ry ⟨w, η, d1, d2, hr, r1, r2, p⟩
  cases e : g d1 d2 η with
  | none => rw [e] at p; exact p.elim
  | some q =>
    obtain ⟨z, η'⟩ := q
    rw [e] at p
    exact ho pins s σ H x y v u Q I rx ry (m hr r1 r2 e p)
theorem un_of {f : Value → Sem Value} {r : V → Hp → VK → Prop} {g : G1} (ho : UnR X f r)
    (m : ∀ {x H} {Q : VK} {w η d z η'}, HeapRel X.K w H η → RepV X.K w H x d → g d η = some (z, η') → (∀ v w' H', Ext w H w' H' → HeapRel X.K w' H' η' → RepV X.K w' H' v z → Q v H') → r x H Q) : UnR X f (rd1 X.K g) := by
  intro pins s σ H x v Q I rx ⟨w, η, d, hr, r1, p⟩
  cases e : g d η with
  | none => rw [e] at p; exact p.elim
  | some q =>
    obtain ⟨z, η'⟩ := q
    rw [e] at p
    exact ho pins s σ H x v Q I rx (m hr r1 e p)
theorem call_of {f : Value} {r : List V → Hp → VK → Prop} {g : GL} (ho : CallR X f r)
    (m : ∀ {xs H} {Q : VK} {w η ds z η'}, HeapRel X.K w H η → RepVs X.K w H xs ds → g ds η = some (z, η') → (∀ v w' H', Ext w H w' H' → HeapRel X.K w' H' η' → RepV X.K w' H' v z → Q v H') → r xs H Q) : CallR X f (rdL X.K g) := by
  intro pins s σ H xs us Q I rx ⟨w, η, ds, hr, r1, p⟩
  cases e : g ds η with
  | none => rw [e] at p; exact p.elim
  | some q =>
    obtain ⟨z, η'⟩ := q
    rw [e] at p
    exact ho pins s σ H xs us Q I rx (m hr r1 e p)
theorem ix_of {r : R2} {g : G2} (ho : IxR X r)
    (m : ∀ {x y H} {Q : VK} {w η d1 d2 z η'}, HeapRel X.K w H η → RepV X.K w H x d1 → RepV X.K w H y d2 → g d1 d2 η = some (z, η') → (∀ v w' H', Ext w H w' H' → HeapRel X.K w' H' η' → RepV X.K w' H' v z → Q v H') → r x y H Q) : IxR X (rd2 X.K g) := by
  intro value slice pins s σ H x y v u Q I rx ry ⟨w, η, d1, d2, hr, r1, r2, p⟩ hs
  cases e : g d1 d2 η with
  | none => rw [e] at p; exact p.elim
  | some q =>
    obtain ⟨z, η'⟩ := q
    rw [e] at p
    exact ho value slice pins s σ H x y v u Q I rx ry (m hr r1 r2 e p) hs
theorem sl_of {r : V → Option Int → Option Int → Hp → VK → Prop} {g : GS} (ho : SlR X r)
    (m : ∀ {x lo hi H} {Q : VK} {w η d z η'}, HeapRel X.K w H η → RepV X.K w H x d → g d lo hi η = some (z, η') → (∀ v w' H', Ext w H w' H' → HeapRel X.K w' H' η' → RepV X.K w' H' v z → Q v H') → r x lo hi H Q) : SlR X (rdSl X.K g) := by
  intro pins s σ H x v vl vu lo hi sl Q I rx hs p1 p2 ⟨w, η, d, hr, r1, p⟩
  cases e : g d lo hi η with
  | none => rw [e] at p; exact p.elim
  | some q =>
    obtain ⟨z, η'⟩ := q
    rw [e] at p
    exact ho pins s σ H x v vl vu lo hi sl Q I rx hs p1 p2 (m hr r1 e p)
/-- the items of a list (by value, or a thing), a tuple -/
def lstOf : D → Store → Option (List D)
  | .lst xs, _ => some xs
  | .obj i, η => match η[i]? with
    | some (.lst xs) => some xs
    | _ => none
  | _, _ => none
theorem lstOf_ok {v : V} {d : D} {ds : List D} (hr : HeapRel K w H η) (rv : RepV K w H v d) (h : lstOf d η = some ds) : ∃ a xs, v = .ref a ∧ H a = some (.lst xs) ∧ RepVs K w H xs ds := by
  cases d with
  | lst xs => cases rv with | lst s r => cases h; exact ⟨_, _, rfl, s.1, r⟩
  | obj i =>
    cases rv with | obj ha => ?_
    dsimp only [lstOf] at h
    split at h
    · rename_i xs eo
      cases h
      obtain ⟨ys, e, r⟩ := hr.at_ _ _ _ ha eo
      exact ⟨_, _, rfl, e, r⟩
    · cases h
  | _ => cases h
/-- .. or the script -/
def seqL : D → Store → Option (List D)
  | .lst xs, _ => some xs
  | .scr xs, _ => some xs
  | .obj i, η => match η[i]? with
    | some (.lst xs) => some xs
    | _ => none
  | _, _ => none
theorem seqL_ok {v : V} {d : D} {ds : List D} (hr : HeapRel K w H η) (rv : RepV K w H v d) (h : seqL d η = some ds) : ∃ a xs, v = .ref a ∧ SqL K H a xs ∧ RepVs K w H xs ds := by
  cases d with
  | lst xs => cases rv with | lst s r => cases h; exact ⟨_, _, rfl, s.sq, r⟩
  | scr xs => cases rv with | scr s r => cases h; exact ⟨_, _, rfl, s.sq, r⟩
  | obj i =>
    cases rv with | obj ha => ?_
    dsimp only [seqL] at h
    split at h
    · rename_i xs eo
      cases h
      obtain ⟨ys, e, r⟩ := hr.at_ _ _ _ ha eo
      exact ⟨_, _, rfl, SqL.of e, r⟩
    · cases h
  | _ => cases h
theorem val_of {Q : VK} {z : D} {v : V} (p : ∀ v w' H', Ext w H w' H' → HeapRel K w' H' η → RepV K w' H' v z → Q v H') (hr : HeapRel K w H η) (rv : RepV K w H v z) : Q v H := p v w H .refl hr rv
theorem tup_of {Q : VK} {xs : List V} {ds : List D} (p : ∀ v w' H', Ext w H w' H' → HeapRel K w' H' η → RepV K w' H' v (.tup ds) → Q v H') (hr : HeapRel K w H η) (r : RepVs K w H xs ds) {q : Addr} (hq : H q = none) : Q (.ref q) (upd H q (.tup xs)) :=
  p _ w _ (Ext.laid hq hr) (hr.laid hq) (.newT hr r hq)
theorem lst_of {Q : VK} {xs : List V} {ds : List D} (p : ∀ v w' H', Ext w H w' H' → HeapRel K w' H' η → RepV K w' H' v (.lst ds) → Q v H') (hr : HeapRel K w H η) (r : RepVs K w H xs ds) {q : Addr} (hq : H q = none) : Q (.ref q) (upd H q (.lst xs)) :=
  p _ w _ (Ext.laid hq hr) (hr.laid hq) (.newL hr r hq)
theorem obj_of {Q : VK} {xs : List V} {ds : List D} (p : ∀ v w' H', Ext w H w' H' → HeapRel K w' H' (η ++ [.lst ds]) → RepV K w' H' v (.obj η.length) → Q v H') (hr : HeapRel K w H η) (r : RepVs K w H xs ds) {q : Addr} (hq : H q = none) : Q (.ref q) (upd H q (.lst xs)) :=
  p _ _ _ (Ext.more hq hr) (hr.newO r hq) (.obj (hr.ixO q))

/-! ### + -/
def addD : G2 := fun x y η => match x, y with
  | .int i, .int j => some (.int (i + j), η)
  | .str a, .str b => if a.length + b.length ≤ sizeLine then some (.str (a ++ b), η) else none
  | .tup a, .tup b => if a.length + b.length ≤ sizeLine then some (.tup (a ++ b), η) else none
  | x, y => match lstOf x η, lstOf y η with
    | some a, some b => if a.length + b.length ≤ sizeLine then some (.lst (a ++ b), η) else none
    | _, _ => none
theorem addD_lst {x y : D} {z : D} {η η' : Store} (h : addD x y η = some (z, η')) :
    (∃ i j, x = .int i ∧ y = .int j ∧ z = .int (i + j) ∧ η' = η) ∨ (∃ a b, x = .str a ∧ y = .str b ∧ a.length + b.length ≤ sizeLine ∧ z = .str (a ++ b) ∧ η' = η) ∨
    (∃ a b, x = .tup a ∧ y = .tup b ∧ a.length + b.length ≤ sizeLine ∧ z = .tup (a ++ b) ∧ η' = η) ∨ (∃ a b, lstOf x η = some a ∧ lstOf y η = some b ∧ a.length + b.length ≤ sizeLine ∧ z = .lst (a ++ b) ∧ η' = η) := by
  unfold addD at h
  split at h
  · cases h; exact .inl ⟨_, _, rfl, rfl, rfl, rfl⟩
  · split at h
    · rename_i hl; cases h; exact .inr (.inl ⟨_, _, rfl, rfl, hl, rfl, rfl⟩)
    · cases h
  · split at h
    · rename_i hl; cases h; exact .inr (.inr (.inl ⟨_, _, rfl, rfl, hl, rfl, rfl⟩))
    · cases h
  · split at h
    · rename_i e1 e2
      split at h
      · rename_i hl; cases h; exact .inr (.inr (.inr ⟨_, _, e1, e2, hl, rfl, rfl⟩))
      · cases h
    · cases h
theorem opD_add : OpR X (binaryOp .Add) (rd2 X.K addD) :=
  op_of (OpR.or op_add (OpR.or op_add_str (OpR.or op_catA op_cat))) fun hr r1 r2 h p => by
    rcases addD_lst h with ⟨i, j, rfl, rfl, rfl, rfl⟩ | ⟨a, b, rfl, rfl, hl, rfl, rfl⟩ | ⟨a, b, rfl, rfl, hl, rfl, rfl⟩ | ⟨a, b, e1, e2, hl, rfl, rfl⟩
    · cases r1; cases r2
      exact .inl ⟨_, _, rfl, rfl, val_of p hr (.int _)⟩
    · cases r1; cases r2
      exact .inr (.inl ⟨_, _, rfl, rfl, hl, val_of p hr (.str _)⟩)
    · cases r1 with | tup s1 q1 => ?_
      cases r2 with | tup s2 q2 => ?_
      refine .inr (.inr (.inl ⟨_, _, _, _, rfl, rfl, s1.sq, s2.sq, by rw [q1.length, q2.length]; exact hl, fun e => ?_, fun _ e => ?_, fun _ _ q hq => tup_of p hr (q1.append q2) hq⟩))
      · subst e; cases q1; exact val_of p hr (.tup s2 q2)
      · subst e; cases q2; exact val_of p hr (.tup s1 (by rw [List.append_nil]; exact q1))
    · obtain ⟨a1, xs, rfl, h1, q1⟩ := lstOf_ok hr r1 e1
      obtain ⟨a2, ys, rfl, h2, q2⟩ := lstOf_ok hr r2 e2
      exact .inr (.inr (.inr ⟨_, _, _, _, rfl, rfl, h1, h2, by rw [q1.length, q2.length]; exact hl, fun q hq => lst_of p hr (q1.append q2) hq⟩))
/-! ### intsOf -/
def subD : G2 := fun x y η => match x, y with
  | .int i, .int j => some (.int (i - j), η)
  | _, _ => none
theorem opD_sub : OpR X (binaryOp .Sub) (rd2 X.K subD) := op_of op_sub fun hr r1 r2 h p => by
  unfold subD at h
  split at h
  · cases h; cases r1; cases r2; exact ⟨_, _, rfl, rfl, val_of p hr (.int _)⟩
  · cases h
def mulOk (i j : Int) : Prop := CMul i j ∨ CMulW i j
instance (i j : Int) : Decidable (mulOk i j) := by unfold mulOk CMul CMulW; infer_instance
theorem RepVs.rep {K : PySem.W.Frag} {w : Wd} {H : Hp} {vs : List V} {ds : List D} (r : RepVs K w H vs ds) : ∀ n : Nat, RepVs K w H (List.replicate n vs).flatten (List.replicate n ds).flatten
  | 0 => .nil
  | n + 1 => by
    rw [List.replicate_succ, List.replicate_succ, List.flatten_cons, List.flatten_cons]
    exact r.append (RepVs.rep r n)
def mulD : G2 := fun x y η => match x, y with
  | .int i, .int j => if mulOk i j then some (.int (i * j), η) else none
  | .tup xs, .int j => if 0 < xs.length ∧ 2 ≤ j ∧ j ≤ 1000 ∧ xs.length ≤ 1000 then some (.tup (List.replicate j.toNat xs).flatten, η) else none
  | x, .int j => (match lstOf x η with
    | some xs => if -(2 ^ 63) ≤ j ∧ j < 2 ^ 63 ∧ xs.length * j.toNat ≤ sizeLine then some (.lst (List.replicate j.toNat xs).flatten, η) else none
    | none => none)
  | _, _ => none
theorem opD_mul : OpR X (binaryOp .Mult) (rd2 X.K mulD) := op_of (OpR.or op_mul (OpR.or op_mulW (OpR.or op_repT op_rep))) fun hr r1 r2 h p => by
  unfold mulD at h
  split at h
  · split at h
    · rename_i hm
      cases h; cases r1; cases r2
      rcases hm with hm | hm
      · exact .inl ⟨_, _, rfl, rfl, hm, val_of p hr (.int _)⟩
      · exact .inr (.inl ⟨_, _, rfl, rfl, hm, val_of p hr (.int _)⟩)
    · cases h
  · split at h
    · rename_i hm
      obtain ⟨h1, h2, h3, h4⟩ := hm
      cases h; cases r2
      cases r1 with | tup s1 q1 => ?_
      exact .inr (.inr (.inl ⟨_, _, _, rfl, rfl, s1.sq, (fun e => by subst e; cases q1; simp at h1), h2, h3, by rw [q1.length]; exact h4, fun q hq => tup_of p hr (q1.rep _) hq⟩))
    · cases h
  · split at h
    · rename_i e1
      split at h
      · rename_i hm
        obtain ⟨h1, h2, h3⟩ := hm
        cases h; cases r2
        obtain ⟨a1, xs, rfl, hh, q1⟩ := lstOf_ok hr r1 e1
        exact .inr (.inr (.inr ⟨_, _, _, rfl, rfl, hh, h1, h2, by rw [q1.length]; exact h3, fun q hq => lst_of p hr (q1.rep _) hq⟩))
      · cases h
    · cases h
  · cases h
def divOk (j : Int) : Prop := 0 < j ∧ (j < 1073741824 ∨ j.natAbs.log2 < 9000)
instance (j : Int) : Decidable (divOk j) := by unfold divOk; infer_instance
def fdivD : G2 := fun x y η => match x, y with
  | .int i, .int j => if divOk j then some (.int (i / j), η) else none
  | _, _ => none
theorem opD_fdiv : OpR X (binaryOp .FloorDiv) (rd2 X.K fdivD) := op_of (OpR.or op_fdiv op_fdivW) fun hr r1 r2 h p => by
  unfold fdivD at h
  split at h
  · split at h
    · rename_i hm
      cases h; cases r1; cases r2
      obtain ⟨h0, hm⟩ := hm
      rcases hm with hm | hm
      · exact .inl ⟨_, _, rfl, rfl, ⟨h0, hm⟩, val_of p hr (.int _)⟩
      · exact .inr ⟨_, _, rfl, rfl, ⟨h0, hm⟩, val_of p hr (.int _)⟩
    · cases h
  · cases h
def modD : G2 := fun x y η => match x, y with
  | .int i, .int j => if 0 < j then some (.int (i % j), η) else none
  | _, _ => none
theorem opD_mod : OpR X (binaryOp .Mod) (rd2 X.K modD) := op_of op_mod fun hr r1 r2 h p => by
  unfold modD at h
  split at h
  · split at h
    · rename_i hm
      cases h; cases r1; cases r2
      exact ⟨_, _, rfl, rfl, hm, val_of p hr (.int _)⟩
    · cases h
  · cases h
def powD : G2 := fun x y η => match x, y with
  | .int i, .int j => if 0 ≤ j ∧ j ≤ 1000000 ∧ i.natAbs < 2 ^ 64 then some (.int (i ^ j.toNat), η) else none
  | _, _ => none
theorem opD_pow : OpR X (binaryOp .Pow) (rd2 X.K powD) := op_of op_pow fun hr r1 r2 h p => by
  unfold powD at h
  split at h
  · split at h
    · rename_i hm
      cases h; cases r1; cases r2
      exact ⟨_, _, rfl, rfl, hm, val_of p hr (.int _)⟩
    · cases h
  · cases h
def negD : G1 := fun x η => match x with
  | .int i => some (.int (-i), η)
  | _ => none
theorem unD_neg : UnR X (unaryOp .USub) (rd1 X.K negD) := un_of un_neg fun hr r1 h p => by
  unfold negD at h
  split at h
  · cases h; cases r1; exact ⟨_, rfl, val_of p hr (.int _)⟩
  · cases h
theorem iopD_add : OpR X (inplaceOp .Add) (rd2 X.K fun x y η => match x, y with
  | .int i, .int j => some (.int (i + j), η)
  | .str a, .str b => if a.length + b.length ≤ sizeLine then some (.str (a ++ b), η) else none
  | _, _ => none) := op_of (OpR.or iop_add iop_add_str) fun hr r1 r2 h p => by
  split at h
  · cases h; cases r1; cases r2; exact .inl ⟨_, _, rfl, rfl, val_of p hr (.int _)⟩
  · split at h
    · rename_i hl; cases h; cases r1; cases r2; exact .inr ⟨_, _, rfl, rfl, hl, val_of p hr (.str _)⟩
    · cases h
  · cases h
theorem iopD_sub : OpR X (inplaceOp .Sub) (rd2 X.K subD) := op_of iop_sub fun hr r1 r2 h p => by
  unfold subD at h
  split at h
  · cases h; cases r1; cases r2; exact ⟨_, _, rfl, rfl, val_of p hr (.int _)⟩
  · cases h
/-! ### order -/
def cmpI (p : Int → Int → Bool) : G2 := fun x y η => match x, y with
  | .int i, .int j => some (.bl (p i j), η)
  | _, _ => none
theorem opD_cmpI {op : CmpOp} {p : Int → Int → Bool} (ho : OpR X (compareOp op) (rI0 fun i j => .bl (p i j))) : OpR X (compareOp op) (rd2 X.K (cmpI p)) := op_of ho fun hr r1 r2 h q => by
  unfold cmpI at h
  split at h
  · cases h; cases r1; cases r2; exact ⟨_, _, rfl, rfl, val_of q hr (.bl _)⟩
  · cases h
abbrev ltI : G2 := cmpI fun i j => decide (i < j)
abbrev leI : G2 := cmpI fun i j => decide (i ≤ j)
abbrev gtI : G2 := cmpI fun i j => decide (j < i)
abbrev geI : G2 := cmpI fun i j => decide (j ≤ i)
theorem opD_lt : OpR X (compareOp .Lt) (rd2 X.K ltI) := opD_cmpI op_lt
theorem opD_le : OpR X (compareOp .LtE) (rd2 X.K leI) := opD_cmpI op_le
theorem opD_gt : OpR X (compareOp .Gt) (rd2 X.K gtI) := opD_cmpI op_gt
theorem opD_ge : OpR X (compareOp .GtE) (rd2 X.K geI) := opD_cmpI op_ge
/-! ### is -/
def isNon : D → Bool
  | .non => true
  | _ => false
def isD : G2 := fun x y η => match y with
  | .non => some (.bl (isNon x), η)
  | .bl b => match x with
    | .bl a => some (.bl (decide (a = b)), η)
    | _ => none
  | _ => none
def isNotD : G2 := fun x y η => match y with
  | .non => some (.bl (!isNon x), η)
  | .bl b => match x with
    | .bl a => some (.bl (!decide (a = b)), η)
    | _ => none
  | _ => none
theorem non_iff {v : V} {d : D} (r : RepV K w H v d) : decide (v = .non) = isNon d := by
  cases r <;> rfl
theorem opD_is : OpR X (compareOp .Is) (rd2 X.K isD) := op_of (OpR.or op_isN op_isBl) fun hr r1 r2 h p => by
  unfold isD at h
  split at h
  · cases h; cases r2; exact .inl ⟨rfl, by rw [non_iff r1]; exact val_of p hr (.bl _)⟩
  · split at h
    · cases h; cases r1; cases r2; exact .inr ⟨_, _, rfl, rfl, val_of p hr (.bl _)⟩
    · cases h
  · cases h
theorem opD_isNot : OpR X (compareOp .IsNot) (rd2 X.K isNotD) := op_of (OpR.or op_notN op_notBl) fun hr r1 r2 h p => by
  unfold isNotD at h
  split at h
  · cases h; cases r2; exact .inl ⟨rfl, by rw [non_iff r1]; exact val_of p hr (.bl _)⟩
  · split at h
    · cases h; cases r1; cases r2; exact .inr ⟨_, _, rfl, rfl, val_of p hr (.bl _)⟩
    · cases h
  · cases h
/-! ### == -/
mutual
/-- plain data, no thing that may change within -/
def pd0 : D → Option PyData
  | .non => some .none
  | .bl b => some (.bool b)
  | .int i => some (.int i)
  | .str x => some (.str x)
  | .tup xs => (pds0 xs).map .tuple
  | .lst xs => (pds0 xs).map .list
  | _ => none
def pds0 : List D → Option (List PyData)
  | [] => some []
  | x :: xs => match pd0 x, pds0 xs with
    | some d, some ds => some (d :: ds)
    | _, _ => none
end
def pd (d : D) (η : Store) : Option PyData := match d with
  | .obj i => (match η[i]? with
    | some (.lst xs) => (pds0 xs).map .list
    | _ => none)
  | d => pd0 d
mutual
theorem pd0_ok : ∀ {v : V} {d : D} {q : PyData}, RepV K w H v d → pd0 d = some q → Dp K H v q
  | _, _, _, .non, h => by cases h; exact .non
  | _, _, _, .bl b, h => by cases h; exact .bl b
  | _, _, _, .int i, h => by cases h; exact .int i
  | _, _, _, .str x, h => by cases h; exact .str x
  | _, _, _, .tup (ds := ds) s r, h => by
    have h' : (pds0 ds).map PyData.tuple = some _ := h
    cases e : pds0 ds with
    | none => rw [e] at h'; cases h'
    | some qs => rw [e] at h'; cases h'; exact .tup s.sq (pds0_ok r e)
  | _, _, _, .lst (ds := ds) s r, h => by
    have h' : (pds0 ds).map PyData.list = some _ := h
    cases e : pds0 ds with
    | none => rw [e] at h'; cases h'
    | some qs => rw [e] at h'; cases h'; exact .lst s.sq (pds0_ok r e)
  | _, _, _, .scr _ _, h => by cases h
  | _, _, _, .obj _, h => by cases h
  | _, _, _, .gl _, h => by cases h
  | _, _, _, .ty _, h => by cases h
theorem pds0_ok : ∀ {vs : List V} {ds : List D} {qs : List PyData}, RepVs K w H vs ds → pds0 ds = some qs → DpAll K H vs qs
  | _, _, _, .nil, h => by cases h; exact .nil
  | _, _, _, .cons (d := d) (ds := ds) r rs, h => by
    have h' : (match pd0 d, pds0 ds with
      | some d, some ds => some (d :: ds)
      | _, _ => none) = some _ := h
    cases e1 : pd0 d with
    | none => rw [e1] at h'; cases h'
    | some q =>
      cases e2 : pds0 ds with
      | none => rw [e1, e2] at h'; cases h'
      | some qs => rw [e1, e2] at h'; cases h'; exact .cons (pd0_ok r e1) (pds0_ok rs e2)
end
theorem pd_ok {v : V} {d : D} {q : PyData} (hr : HeapRel K w H η) (rv : RepV K w H v d) (h : pd d η = some q) : Dp K H v q := by
  cases d with
  | obj i =>
    cases rv with | obj ha => ?_
    dsimp only [pd] at h
    split at h
    · rename_i xs eo
      obtain ⟨ys, e, r⟩ := hr.at_ _ _ _ ha eo
      cases e2 : pds0 xs with
      | none => rw [e2] at h; cases h
      | some qs => rw [e2] at h; cases h; exact .lst (SqL.of e) (pds0_ok r e2)
    · cases h
  | _ => exact pd0_ok rv h
/-- the sizes and depths that == serves -/
def plainQ (q : PyData) : Prop := SeqAt.shaped q = true
instance (q : PyData) : Decidable (plainQ q) := by unfold plainQ; infer_instance
def eqD : G2 := fun x y η => match pd x η, pd y η with
  | some p, some q => if plainQ p ∧ plainQ q then some (.bl (PyData.eqv p q), η) else none
  | _, _ => none
def neD : G2 := fun x y η => match pd x η, pd y η with
  | some p, some q => if plainQ p ∧ plainQ q then some (.bl (!PyData.eqv p q), η) else none
  | _, _ => none
theorem opD_eq (hu : X.A.units + 64 < cLine) : OpR X (compareOp .Eq) (rd2 X.K eqD) := op_of (op_eqD hu) fun hr r1 r2 h p => by
  unfold eqD at h
  split at h
  · rename_i e1 e2
    split at h
    · rename_i hq; cases h; exact ⟨_, _, pd_ok hr r1 e1, pd_ok hr r2 e2, hq.1, hq.2, val_of p hr (.bl _)⟩
    · cases h
  · cases h
theorem opD_ne (hu : X.A.units + 64 < cLine) : OpR X (compareOp .NotEq) (rd2 X.K neD) := op_of (op_neD hu) fun hr r1 r2 h p => by
  unfold neD at h
  split at h
  · rename_i e1 e2
    split at h
    · rename_i hq; cases h; exact ⟨_, _, pd_ok hr r1 e1, pd_ok hr r2 e2, hq.1, hq.2, val_of p hr (.bl _)⟩
    · cases h
  · cases h
/-! ### built-in calls -/
def lenD : GL := fun ds η => match ds with
  | [.str x] => if x.length ≤ sizeLine then some (.int x.length, η) else none
  | [.tup xs] => some (.int xs.length, η)
  | [d] => match seqL d η with
    | some xs => some (.int xs.length, η)
    | none => none
  | _ => none
theorem callD_len : CallR X (.builtin "len") (rdL X.K lenD) := call_of call_len fun hr r h p => by
  unfold lenD at h
  split at h
  · split at h
    · rename_i hl
      cases h
      cases r with | cons r1 r2 => ?_
      cases r2; cases r1
      exact ⟨_, _, rfl, ⟨hl, rfl⟩, val_of p hr (.int _)⟩
    · cases h
  · cases h
    cases r with | cons r1 r2 => ?_
    cases r2
    cases r1 with | tup s q => ?_
    exact ⟨_, _, rfl, .inr ⟨_, s.sq, rfl⟩, by rw [q.length]; exact val_of p hr (.int _)⟩
  · split at h
    · rename_i e
      cases h
      cases r with | cons r1 r2 => ?_
      cases r2
      obtain ⟨a, ys, rfl, s, q⟩ := seqL_ok hr r1 e
      exact ⟨_, _, rfl, .inl ⟨_, s, rfl⟩, by rw [q.length]; exact val_of p hr (.int _)⟩
    · cases h
  · cases h
def absD : GL := fun ds η => match ds with
  | [.int i] => some (.int (if i < 0 then -i else i), η)
  | _ => none
theorem callD_abs : CallR X (.builtin "abs") (rdL X.K absD) := call_of call_abs fun hr r h p => by
  unfold absD at h
  split at h
  · cases h
    cases r with | cons r1 r2 => ?_
    cases r2; cases r1
    exact ⟨_, rfl, val_of p hr (.int _)⟩
  · cases h
def max2D : GL := fun ds η => match ds with
  | [.int i, .int j] => some (.int (if j > i then j else i), η)
  | _ => none
def min2D : GL := fun ds η => match ds with
  | [.int i, .int j] => some (.int (if j < i then j else i), η)
  | _ => none
theorem callD_max2 (hc : X.calm = true) : CallR X (.builtin "max") (rdL X.K max2D) := call_of (call_max2 hc) fun hr r h p => by
  unfold max2D at h
  split at h
  · cases h
    cases r with | cons r1 r2 => ?_
    cases r2 with | cons r2 r3 => ?_
    cases r3; cases r1; cases r2
    exact ⟨_, _, rfl, val_of p hr (.int _)⟩
  · cases h
theorem callD_min2 (hc : X.calm = true) : CallR X (.builtin "min") (rdL X.K min2D) := call_of (call_min2 hc) fun hr r h p => by
  unfold min2D at h
  split at h
  · cases h
    cases r with | cons r1 r2 => ?_
    cases r2 with | cons r2 r3 => ?_
    cases r3; cases r1; cases r2
    exact ⟨_, _, rfl, val_of p hr (.int _)⟩
  · cases h
def intD : GL := fun ds η => match ds with
  | [.int i] => some (.int i, η)
  | [.bl b] => some (.int (if b then 1 else 0), η)
  | _ => none
theorem callD_int : CallR X (.type "int") (rdL X.K intD) := call_of call_int1 fun hr r h p => by
  unfold intD at h
  split at h
  · cases h
    cases r with | cons r1 r2 => ?_
    cases r2; cases r1
    exact .inl ⟨_, rfl, val_of p hr (.int _)⟩
  · cases h
    cases r with | cons r1 r2 => ?_
    cases r2; cases r1
    exact .inr ⟨_, rfl, val_of p hr (.int _)⟩
  · cases h
/-- tuple(x) -/
def tupleD : GL := fun ds η => match ds with
  | [.tup xs] => some (.tup xs, η)
  | [d] => match seqL d η with
    | some xs => some (.tup xs, η)
    | none => none
  | _ => none
theorem callD_tuple : CallR X (.type "tuple") (rdL X.K tupleD) := call_of call_tuple_of fun hr r h p => by
  unfold tupleD at h
  split at h
  · cases h
    cases r with | cons r1 r2 => ?_
    cases r2
    cases r1 with | tup s q => ?_
    exact ⟨_, _, rfl, .inr ⟨s.sq, val_of p hr (.tup s q)⟩⟩
  · split at h
    · rename_i e
      cases h
      cases r with | cons r1 r2 => ?_
      cases r2
      obtain ⟨a, ys, rfl, s, q⟩ := seqL_ok hr r1 e
      exact ⟨_, _, rfl, .inl ⟨s, fun l hl => tup_of p hr q hl⟩⟩
    · cases h
  · cases h
/-- list(x), as a value; as a thing -/
def listD : GL := fun ds η => match ds with
  | [.tup xs] => some (.lst xs, η)
  | [d] => match seqL d η with
    | some xs => some (.lst xs, η)
    | none => none
  | _ => none
def listO : GL := fun ds η => match ds with
  | [.tup xs] => some (.obj η.length, η ++ [.lst xs])
  | [d] => match seqL d η with
    | some xs => some (.obj η.length, η ++ [.lst xs])
    | none => none
  | _ => none
theorem callD_list : CallR X (.type "list") (rdL X.K listD) := call_of call_list_of fun hr r h p => by
  unfold listD at h
  split at h
  · cases h
    cases r with | cons r1 r2 => ?_
    cases r2
    cases r1 with | tup s q => ?_
    exact ⟨_, _, rfl, .inr s.sq, fun l hl => lst_of p hr q hl⟩
  · split at h
    · rename_i e
      cases h
      cases r with | cons r1 r2 => ?_
      cases r2
      obtain ⟨a, ys, rfl, s, q⟩ := seqL_ok hr r1 e
      exact ⟨_, _, rfl, .inl s, fun l hl => lst_of p hr q hl⟩
    · cases h
  · cases h
theorem callD_listO : CallR X (.type "list") (rdL X.K listO) := call_of call_list_of fun hr r h p => by
  unfold listO at h
  split at h
  · cases h
    cases r with | cons r1 r2 => ?_
    cases r2
    cases r1 with | tup s q => ?_
    exact ⟨_, _, rfl, .inr s.sq, fun l hl => obj_of p hr q hl⟩
  · split at h
    · rename_i e
      cases h
      cases r with | cons r1 r2 => ?_
      cases r2
      obtain ⟨a, ys, rfl, s, q⟩ := seqL_ok hr r1 e
      exact ⟨_, _, rfl, .inl s, fun l hl => obj_of p hr q hl⟩
    · cases h
  · cases h
/-- all, any of a list of bools -/
def boolsOf : List D → Option (List Bool)
  | [] => some []
  | .bl b :: r => (boolsOf r).map (b :: ·)
  | _ => none
theorem bools_ok : ∀ {vs : List V} {ds : List D} {bs : List Bool}, RepVs K w H vs ds → boolsOf ds = some bs → vs = bs.map V.bl
  | _, _, _, .nil, h => by cases h; rfl
  | _, _, _, .cons (d := d) (ds := ds) r rs, h => by
    cases d with
    | bl b =>
      have h' : (boolsOf ds).map (b :: ·) = some _ := h
      cases e : boolsOf ds with
      | none => rw [e] at h'; cases h'
      | some bs =>
        rw [e] at h'; cases h'
        cases r
        rw [List.map_cons, bools_ok rs e]
    | _ => cases h
def allD : GL := fun ds η => match ds with
  | [d] => match seqL d η with
    | some xs => (boolsOf xs).map fun bs => (.bl (bs.all id), η)
    | none => none
  | _ => none
def anyD : GL := fun ds η => match ds with
  | [d] => match seqL d η with
    | some xs => (boolsOf xs).map fun bs => (.bl (bs.any id), η)
    | none => none
  | _ => none
theorem callD_all (hc : X.calm = true) : CallR X (.builtin "all") (rdL X.K allD) := call_of (cr_all hc) fun hr r h p => by
  unfold allD at h
  split at h
  · split at h
    · rename_i e
      cases r with | cons r1 r2 => ?_
      cases r2
      obtain ⟨a, ys, rfl, s, q⟩ := seqL_ok hr r1 e
      cases eb : boolsOf ‹List D› with
      | none => rw [eb] at h; cases h
      | some bs =>
        rw [eb] at h
        cases h
        exact ⟨_, bs, rfl, by rw [← bools_ok q eb]; exact s, val_of p hr (.bl _)⟩
    · cases h
  · cases h
theorem callD_any (hc : X.calm = true) : CallR X (.builtin "any") (rdL X.K anyD) := call_of (cr_any hc) fun hr r h p => by
  unfold anyD at h
  split at h
  · split at h
    · rename_i e
      cases r with | cons r1 r2 => ?_
      cases r2
      obtain ⟨a, ys, rfl, s, q⟩ := seqL_ok hr r1 e
      cases eb : boolsOf ‹List D› with
      | none => rw [eb] at h; cases h
      | some bs =>
        rw [eb] at h
        cases h
        exact ⟨_, bs, rfl, by rw [← bools_ok q eb]; exact s, val_of p hr (.bl _)⟩
    · cases h
  · cases h
def intsOf : List D → Option (List Int)
  | [] => some []
  | .int b :: r => (intsOf r).map (b :: ·)
  | _ => none
theorem ints_ok : ∀ {vs : List V} {ds : List D} {bs : List Int}, RepVs K w H vs ds → intsOf ds = some bs → vs = bs.map V.int
  | _, _, _, .nil, h => by cases h; rfl
  | _, _, _, .cons (d := d) (ds := ds) r rs, h => by
    cases d with
    | int b =>
      have h' : (intsOf ds).map (b :: ·) = some _ := h
      cases e : intsOf ds with
      | none => rw [e] at h'; cases h'
      | some bs =>
        rw [e] at h'; cases h'
        cases r
        rw [List.map_cons, ints_ok rs e]
    | _ => cases h
theorem ints_map (ns : List Int) : intsOf (ns.map D.int) = some ns := by
  induction ns with
  | nil => rfl
  | cons n r ih => show (intsOf (r.map D.int)).map (n :: ·) = _; rw [ih]; rfl
theorem bools_map (ns : List Bool) : boolsOf (ns.map D.bl) = some ns := by
  induction ns with
  | nil => rfl
  | cons n r ih => show (boolsOf (r.map D.bl)).map (n :: ·) = _; rw [ih]; rfl
theorem ints_rep : ∀ (ns : List Int), RepVs K w H (ns.map V.int) (ns.map D.int)
  | [] => .nil
  | n :: r => .cons (.int n) (ints_rep r)
/-! ### subscripts -/
def ixD : G2 := fun x y η => match y with
  | .int i => (match x with
    | .tup xs => (atI xs i).map (·, η)
    | .str s => if s.length ≤ sizeLine then (atI s.cps.toList i).map fun c => (.str ⟨#[c]⟩, η) else none
    | x => match seqL x η with
      | some xs => (atI xs i).map (·, η)
      | none => none)
  | _ => none
theorem atI_rep {vs : List V} {ds : List D} {i : Int} {d : D} (r : RepVs K w H vs ds) (h : atI ds i = some d) : ∃ v, atI vs i = some v ∧ RepV K w H v d := by
  unfold atI at h ⊢
  rw [r.length]
  cases e : ixN ds.length i with
  | none => rw [e] at h; cases h
  | some j =>
    rw [e] at h
    exact r.get h
theorem ixD_seq : IxR X (rd2 X.K ixD) := ix_of ix_seq fun hr r1 r2 h p => by
  unfold ixD at h
  split at h
  · cases r2
    split at h
    · rename_i xs
      cases e : atI xs ‹Int› with
      | none => rw [e] at h; cases h
      | some d =>
        rw [e] at h; cases h
        cases r1 with | tup s q => ?_
        obtain ⟨v, ev, rv⟩ := atI_rep q e
        exact .inr (.inl ⟨_, _, _, v, rfl, rfl, s.sq, ev, val_of p hr rv⟩)
    · rename_i s
      split at h
      · rename_i hl
        cases e : atI s.cps.toList ‹Int› with
        | none => rw [e] at h; cases h
        | some c =>
          rw [e] at h; cases h
          cases r1
          exact .inr (.inr ⟨_, _, c, rfl, rfl, hl, e, val_of p hr (.str _)⟩)
      · cases h
    · split at h
      · rename_i xs es
        cases e : atI xs ‹Int› with
        | none => rw [e] at h; cases h
        | some d =>
          rw [e] at h; cases h
          obtain ⟨a, ys, rfl, s, q⟩ := seqL_ok hr r1 es
          obtain ⟨v, ev, rv⟩ := atI_rep q e
          exact .inl ⟨_, _, _, v, rfl, rfl, s, ev, val_of p hr rv⟩
      · cases h
  · cases h
/-! ### slices -/
def cutL (xs : List D) (lo hi : Option Int) : List D := (xs.drop (HT.sIx xs.length 0 lo)).take (HT.sIx xs.length xs.length hi - HT.sIx xs.length 0 lo)
theorem cutL_rep {vs : List V} {ds : List D} (r : RepVs K w H vs ds) (lo hi : Option Int) : RepVs K w H (cutV vs lo hi) (cutL ds lo hi) := by
  unfold cutV cutL
  rw [r.length]
  exact (r.drop _).take _
def slD : GS := fun x lo hi η => match x with
  | .tup xs => some (.tup (cutL xs lo hi), η)
  | x => match seqL x η with
    | some xs => some (.lst (cutL xs lo hi), η)
    | none => none
theorem cutL_whole {xs : List D} {lo hi : Option Int} (h : HT.sIx xs.length 0 lo = 0 ∧ HT.sIx xs.length xs.length hi = xs.length) : cutL xs lo hi = xs := by
  unfold cutL
  rw [h.1, h.2]
  simp
theorem slD_ok : SlR X (rdSl X.K slD) := sl_of (SlR.or sl_list sl_tupA) fun hr r1 h p => by
  unfold slD at h
  split at h
  · cases h
    cases r1 with | tup s q => ?_
    refine .inr ⟨_, _, rfl, s.sq, fun e => ?_, fun _ b hb => tup_of p hr (cutL_rep q _ _) hb⟩
    rw [q.length] at e
    rw [cutL_whole e] at p
    exact val_of p hr (.tup s q)
  · split at h
    · rename_i es
      cases h
      obtain ⟨a, ys, rfl, s, q⟩ := seqL_ok hr r1 es
      exact .inl ⟨_, _, rfl, s, fun b hb => lst_of p hr (cutL_rep q _ _) hb⟩
    · cases h
end
end Dn
/-! Dn part 7: zip, enumerate, range: what is walked. -/
namespace Dn
open PySem PySem.Spec PyProof.Rows L2
/-! ### a list or a tuple, its iterator -/
def SIt (t : Bool) (h : Heap) (it l : Addr) (i : Nat) : Prop := match t with
  | true => h.IsTupleIter it l i
  | false => h.IsListIter it l i
def SLs (t : Bool) (h : Heap) (l : Addr) (xs : Array Value) : Prop := match t with
  | true => h.IsTuple l xs
  | false => h.IsList l xs
def SqS (K : PySem.W.Frag) (H : Hp) (t : Bool) (a : Addr) (xs : List V) : Prop := match t with
  | true => SqT K H a xs
  | false => SqL K H a xs
abbrev itO (t : Bool) (l : Addr) : Obj := match t with
  | true => { cls := .type "tuple_iterator", data := .fields #[.ref l, .int 0 0] }
  | false => { cls := .type "list_iterator", data := .fields #[.ref l, .int 0 0] }
theorem SIt.live {t : Bool} {h : Heap} {it l : Addr} {i : Nat} (x : SIt t h it l i) : ∃ o, h.get? it = some o ∧ ∀ v, o.data ≠ .cell v := by
  cases t with
  | true => obtain ⟨o, e, _, d⟩ := (show h.IsTupleIter it l i from x); exact ⟨o, e, fun v q => by rw [d] at q; cases q⟩
  | false => obtain ⟨o, e, _, d⟩ := (show h.IsListIter it l i from x); exact ⟨o, e, fun v q => by rw [d] at q; cases q⟩
theorem SIt.at_ {t : Bool} {h h' : Heap} {it l : Addr} {i : Nat} (x : SIt t h it l i) (k : ∀ o, h.get? it = some o → h'.get? it = some o) : SIt t h' it l i := by
  cases t with
  | true => exact (show h.IsTupleIter it l i from x).at k
  | false => exact (show h.IsListIter it l i from x).at k
theorem SIt.new {t : Bool} {h : Heap} {it l : Addr} (e : h.get? it = some (itO t l)) : SIt t h it l 0 := by
  cases t with
  | true => exact ⟨_, e, rfl, rfl⟩
  | false => exact ⟨_, e, rfl, rfl⟩
theorem draws_s {prog : Program} {w : World} {A : Around} (hh : A.handled = none) (t : Bool) (it l : Addr) (hne : l ≠ it) (items : Array Value) :
    Draws prog w A it [it, l] items.size (fun i v => items[i]? = some v) (fun i h => SIt t h it l i ∧ SLs t h l items) := by
  cases t with
  | true => exact Draws.tuple hh it l hne items
  | false => exact Draws.list hh it l hne items
theorem s_ne {t : Bool} {h : Heap} {it l : Addr} {i : Nat} {xs : Array Value} (x : SIt t h it l i) (p : SLs t h l xs) : l ≠ it := fun q => by
  subst q
  cases t with
  | true =>
    obtain ⟨o', e', c', _⟩ := (show h.IsTuple l _ from p)
    obtain ⟨o2, e2, c2, _⟩ := (show h.IsTupleIter l l i from x)
    rw [e2] at e'; cases e'; rw [c2] at c'; simp at c'
  | false =>
    obtain ⟨o', e', c', _⟩ := (show h.IsList l _ from p)
    obtain ⟨o2, e2, c2, _⟩ := (show h.IsListIter l l i from x)
    rw [e2] at e'; cases e'; rw [c2] at c'; simp at c'
theorem begins_s (t : Bool) (l : Addr) (items : Array Value) : Begins (.ref l) (itO t l) fun h => SLs t h l items := by
  cases t with
  | true => exact begins_tuple l items
  | false => exact begins_list l items
section
variable {X : Cx} {pins : List (Addr × Obj)} {σ : L2.St} {H : Hp} {s : Shared} {a : Addr} {xs ys : List V} {t : Bool}
theorem inv_seq (I : Inv X pins σ H s) (h : SqS X.K H t a xs) : ∃ its : List Value, Vals xs its ∧ SLs t s.heap a its.toArray ∧ its.toArray.size = xs.length := by
  cases t with
  | true => obtain ⟨its, rv, p, _⟩ := I.tuple h; exact ⟨its, rv, p, by simp [rv.length]⟩
  | false => obtain ⟨its, rv, p, _⟩ := I.list h; exact ⟨its, rv, p.isList, by simp [rv.length]⟩
theorem seq_inj (I : Inv X pins σ H s) (h : SqS X.K H t a xs) (h' : SqS X.K H t a ys) : xs = ys := by
  cases t with
  | true => exact I.tuple_inj h h'
  | false => exact I.list_inj h h'
theorem seq_lt (I : Inv X pins σ H s) (h : SqS X.K H t a xs) : a < s.heap.objs.size := by
  obtain ⟨its, _, p, _⟩ := inv_seq I h
  cases t with
  | true => obtain ⟨_, e, _⟩ := (show s.heap.IsTuple a _ from p); exact Heap.lt_size e
  | false => obtain ⟨_, e, _⟩ := (show s.heap.IsList a _ from p); exact Heap.lt_size e
/-- one turn of a walk that hands out new tuples -/
theorem walkT_item {It : Addr} {fp wr : List Addr} {n i : Nat} {Pt : Nat → Array Value → Prop} {St : Nat → Heap → Prop} {Mid : Nat → Addr → Heap → Prop} {elts : List Expr} {kk : Nat} {tpos : Pos} {E : Value → Shared → Prop} {xs : List V}
    (Wk : WalksT X.prog X.w X.A It fp wr n Pt St Mid) (I : Inv X pins σ H s) (st : St i s.heap) (hi : i < n) (hf : ∀ b ∈ wr, FpOk X pins H b) (hv : ∀ vals, Pt i vals → Vals xs vals.toList) (hz : xs.length ≤ sizeLine) :
    wpAny (model X.prog X.w) X.A (pyNext (.ref It)) (fun r s1 => ∃ u, r = some u ∧
      wpAny (model X.prog X.w) X.A (letOwnedTupleGo (.Tuple elts kk tpos) (.ref It) u) (fun _ s2 => ∃ T, u = .ref T ∧ H T = none ∧ s.heap.objs.size ≤ T ∧ Inv X pins σ (upd H T (.tup xs)) s2 ∧ St (i + 1) s2.heap ∧
        ∀ b o, b ∉ wr → s.heap.get? b = some o → s2.heap.get? b = some o) E s1) E s := by
  refine Wk.item i s _ _ hi st fun T vals h' tk hP hT ht hm hk => ⟨_, rfl, ?_⟩
  refine Wk.go elts kk tpos i T { s with heap := h', toks := tk } _ _ hm fun h'' hs hk2 => ?_
  have hTw : T ∉ wr := Wk.apart i T h' hm
  have hn : H T = none := I.hok.fresh hT
  refine ⟨T, rfl, hn, hT, ?_, hs, fun b o hb e => hk2 b o hb (hk b o hb e)⟩
  have ht2 : h''.IsTuple T vals := ht.at fun o e => hk2 T o hTw e
  refine I.turnedNew (t' := tk) (ch := wr) (fun b o hb e => hk2 b o hb (hk b o hb e)) hf hT ⟨hz, vals.toList, hv vals hP, ?_⟩
  have : vals.toList.toArray = vals := by simp
  rw [this]
  exact ht2
theorem walkT_done {It : Addr} {fp wr : List Addr} {n : Nat} {Pt : Nat → Array Value → Prop} {St : Nat → Heap → Prop} {Mid : Nat → Addr → Heap → Prop} {E : Value → Shared → Prop}
    (Wk : WalksT X.prog X.w X.A It fp wr n Pt St Mid) (I : Inv X pins σ H s) (st : St n s.heap) (hf : ∀ b ∈ wr, FpOk X pins H b) :
    wpAny (model X.prog X.w) X.A (pyNext (.ref It)) (fun r s1 => r = none ∧ Inv X pins σ H s1) E s :=
  Wk.done s _ _ st fun h' tk hk => ⟨rfl, I.turnedL (t' := tk) (ch := wr) hk hf⟩
end

/-! ### zip of two -/
def It2 (K : PySem.W.Frag) (t1 t2 : Bool) (a b : Addr) : It :=
  ⟨fun i H => ∃ (xs ys : List V) (x y : V), SqS K H t1 a xs ∧ SqS K H t2 b ys ∧ xs[i]? = some x ∧ ys[i]? = some y,
    fun i H v H' => ∃ T x y, v = .ref T ∧ H T = none ∧ H' = upd H T (.tup [x, y]) ∧ (∀ xs, SqS K H t1 a xs → xs[i]? = some x) ∧ ∀ ys, SqS K H t2 b ys → ys[i]? = some y,
    fun i H => ∃ xs ys : List V, SqS K H t1 a xs ∧ SqS K H t2 b ys ∧ i ≤ xs.length ∧ i ≤ ys.length ∧ (i = xs.length ∨ i = ys.length)⟩
theorem turn_zip2 {P : Program} {w : World} {K : PySem.W.Frag} {elts : List Expr} {kk : Nat} {tpos : Pos} {t1 t2 : Bool} {a b z TI TO i1 i2 : Addr} (D : ZipSep2 z TI TO i1 i2 [i1, a] [i2, b]) :
    Turn P w K (.Tuple elts kk tpos) (It2 K t1 t2 a b) [z, TI, TO, i1, i2] z (fun i h => IsZip h z TI TO .none ∧ IsTupOf2 h TI (.ref i1) (.ref i2) ∧ (∃ x y, IsTupOf2 h TO x y) ∧ SIt t1 h i1 a i ∧ SIt t2 h i2 b i) where
  mem := by simp
  obj := fun i h st c hc => by
    obtain ⟨hz, hTI, ⟨x, y, hTO⟩, h1, h2⟩ := st
    have e' : c = z ∨ c = TI ∨ c = TO ∨ c = i1 ∨ c = i2 := by simpa using hc
    rcases e' with q | q | q | q | q
    · rw [q]; exact ⟨_, hz, fun v q => nomatch q⟩
    · rw [q]; exact ⟨_, hTI, fun v q => nomatch q⟩
    · rw [q]; exact ⟨_, hTO, fun v q => nomatch q⟩
    · rw [q]; exact h1.live
    · rw [q]; exact h2.live
  keep := fun i h h' st k => by
    obtain ⟨hz, hTI, ⟨x, y, hTO⟩, h1, h2⟩ := st
    exact ⟨k z (by simp) _ hz, k TI (by simp) _ hTI, ⟨x, y, k TO (by simp) _ hTO⟩, h1.at_ fun o q => k i1 (by simp) o q, h2.at_ fun o q => k i2 (by simp) o q⟩
  item := by
    intro X hP hw hK hc i pins s σ H E I hf st hg
    subst hP hw hK
    obtain ⟨hz, hTI, hTO, h1, h2⟩ := st
    obtain ⟨xs, ys, x, y, hqx, hqy, hx, hy⟩ := hg
    obtain ⟨its, rv, p, l1⟩ := inv_seq I hqx
    obtain ⟨its2, rv2, p2, l2⟩ := inv_seq I hqy
    have hi1 := (List.getElem?_eq_some_iff.mp hx).1
    have hi2 := (List.getElem?_eq_some_iff.mp hy).1
    have n1 : a ≠ i1 := s_ne h1 p
    have n2 : b ≠ i2 := s_ne h2 p2
    have Wk := WalksT.zipD2 (prog := X.prog) (w := X.w) (A := X.A) D (draws_s (A := X.A.in1) (I.ok.hd hc) t1 i1 a n1 its.toArray) (draws_s (A := X.A.in1) (I.ok.hd hc) t2 i2 b n2 its2.toArray)
    refine wpAny_mono (walkT_item (xs := [x, y]) Wk I ⟨hz, hTI, hTO, ⟨h1, p⟩, ⟨h2, p2⟩⟩ (by rw [l1, l2]; omega) (fun c hc' => hf c (by
      have e' : c = z ∨ c = TO ∨ c = i1 ∨ c = i2 := by simpa using hc'
      rcases e' with q | q | q | q <;> simp [q])) (fun vals ⟨x1, x2, q1, q2, e⟩ => ?_) (by show 2 ≤ sizeLine; decide)) (fun r s1 ⟨u, e1, q⟩ => ⟨u, e1, wpAny_mono q (fun _ s2 ⟨T, eu, hn, hle, I2, st2, hk⟩ => ?_) fun _ _ e => e⟩) fun _ _ e => e
    · subst e
      obtain ⟨u, hu, ru⟩ := rv.get hx
      obtain ⟨u2, hu2, ru2⟩ := rv2.get hy
      have e1 : its[i]? = some x1 := by simpa using q1
      have e2 : its2[i]? = some x2 := by simpa using q2
      rw [hu] at e1; cases e1
      rw [hu2] at e2; cases e2
      exact .cons ru (.cons ru2 .nil)
    · subst eu
      obtain ⟨z1, z2, z3, ⟨z4, _⟩, ⟨z5, _⟩⟩ := st2
      refine ⟨.ref T, _, I2, rfl, ⟨T, x, y, rfl, hn, rfl, fun l hl => by rw [seq_inj I hl hqx]; exact hx, fun l hl => by rw [seq_inj I hl hqy]; exact hy⟩, ⟨z1, z2, z3, z4, z5⟩, fun c hcm => ?_⟩
      have hlt : c < s.heap.objs.size := by
        have e' : c = z ∨ c = TI ∨ c = TO ∨ c = i1 ∨ c = i2 := by simpa using hcm
        rcases e' with q | q | q | q | q
        · rw [q]; exact Heap.lt_size hz
        · rw [q]; exact Heap.lt_size hTI
        · rw [q]; obtain ⟨_, _, hTO⟩ := hTO; exact Heap.lt_size hTO
        · rw [q]; obtain ⟨_, e1, _⟩ := h1.live; exact Heap.lt_size e1
        · rw [q]; obtain ⟨_, e2, _⟩ := h2.live; exact Heap.lt_size e2
      rw [upd_ne (Nat.ne_of_lt (Nat.lt_of_lt_of_le hlt hle))]
      exact (hf c hcm).1
  done := by
    intro X hP hw hK hc i pins s σ H E I hf st hg
    subst hP hw hK
    obtain ⟨hz, hTI, ⟨a1, a2, hTO⟩, h1, h2⟩ := st
    obtain ⟨xs, ys, hqx, hqy, le1, le2, hend⟩ := hg
    obtain ⟨its, rv, p, l1⟩ := inv_seq I hqx
    obtain ⟨its2, rv2, p2, l2⟩ := inv_seq I hqy
    have n1 : a ≠ i1 := s_ne h1 p
    have n2 : b ≠ i2 := s_ne h2 p2
    refine wpAny_pyNext_zipD2_end D (draws_s (A := X.A.in1) (I.ok.hd hc) t1 i1 a n1 its.toArray) (draws_s (A := X.A.in1) (I.ok.hd hc) t2 i2 b n2 its2.toArray) hz hTI hTO ⟨h1, p⟩ ⟨h2, p2⟩ (by rw [l1]; exact le1) (by rw [l2]; exact le2) (by rw [l1, l2]; exact hend) fun h' tk hk => ⟨rfl, ?_⟩
    exact I.turnedL (t' := tk) (ch := [z, TI, TO, i1, i2]) (fun c o hb q => hk c o (fun q' => hb (by simp [q'])) (fun q' => hb (by simp [q'])) (fun q' => hb (by simp [q'])) (fun q' => hb (by simp [q'])) q) hf
  self := fun A i s Q E st h => wpAny_pyIter_zip st.1 h

/-! ### zip of three -/
def It3 (K : PySem.W.Frag) (t1 t2 t3 : Bool) (a b c : Addr) : It :=
  ⟨fun i H => ∃ (xs ys zs : List V) (x y u : V), SqS K H t1 a xs ∧ SqS K H t2 b ys ∧ SqS K H t3 c zs ∧ xs[i]? = some x ∧ ys[i]? = some y ∧ zs[i]? = some u,
    fun i H v H' => ∃ T x y u, v = .ref T ∧ H T = none ∧ H' = upd H T (.tup [x, y, u]) ∧ (∀ xs, SqS K H t1 a xs → xs[i]? = some x) ∧ (∀ ys, SqS K H t2 b ys → ys[i]? = some y) ∧ ∀ zs, SqS K H t3 c zs → zs[i]? = some u,
    fun i H => ∃ xs ys zs : List V, SqS K H t1 a xs ∧ SqS K H t2 b ys ∧ SqS K H t3 c zs ∧ i ≤ xs.length ∧ i ≤ ys.length ∧ i ≤ zs.length ∧ (i = xs.length ∨ i = ys.length ∨ i = zs.length)⟩
theorem turn_zip3 {P : Program} {w : World} {K : PySem.W.Frag} {elts : List Expr} {kk : Nat} {tpos : Pos} {t1 t2 t3 : Bool} {a b d z TI TO i1 i2 i3 : Addr} (D : ZipSep3 z TI TO i1 i2 i3 [i1, a] [i2, b] [i3, d]) :
    Turn P w K (.Tuple elts kk tpos) (It3 K t1 t2 t3 a b d) [z, TI, TO, i1, i2, i3] z (fun i h => IsZip h z TI TO .none ∧ IsTupOf3 h TI (.ref i1) (.ref i2) (.ref i3) ∧ (∃ x y u, IsTupOf3 h TO x y u) ∧ SIt t1 h i1 a i ∧ SIt t2 h i2 b i ∧ SIt t3 h i3 d i) where
  mem := by simp
  obj := fun i h st c hc => by
    obtain ⟨hz, hTI, ⟨x, y, u, hTO⟩, h1, h2, h3⟩ := st
    have e' : c = z ∨ c = TI ∨ c = TO ∨ c = i1 ∨ c = i2 ∨ c = i3 := by simpa using hc
    rcases e' with q | q | q | q | q | q
    · rw [q]; exact ⟨_, hz, fun v q => nomatch q⟩
    · rw [q]; exact ⟨_, hTI, fun v q => nomatch q⟩
    · rw [q]; exact ⟨_, hTO, fun v q => nomatch q⟩
    · rw [q]; exact h1.live
    · rw [q]; exact h2.live
    · rw [q]; exact h3.live
  keep := fun i h h' st k => by
    obtain ⟨hz, hTI, ⟨x, y, u, hTO⟩, h1, h2, h3⟩ := st
    exact ⟨k z (by simp) _ hz, k TI (by simp) _ hTI, ⟨x, y, u, k TO (by simp) _ hTO⟩, h1.at_ fun o q => k i1 (by simp) o q, h2.at_ fun o q => k i2 (by simp) o q, h3.at_ fun o q => k i3 (by simp) o q⟩
  item := by
    intro X hP hw hK hc i pins s σ H E I hf st hg
    subst hP hw hK
    obtain ⟨hz, hTI, hTO, h1, h2, h3⟩ := st
    obtain ⟨xs, ys, zs, x, y, u0, hqx, hqy, hqz, hx, hy, hu0⟩ := hg
    obtain ⟨its, rv, p, l1⟩ := inv_seq I hqx
    obtain ⟨its2, rv2, p2, l2⟩ := inv_seq I hqy
    obtain ⟨its3, rv3, p3, l3⟩ := inv_seq I hqz
    have hi1 := (List.getElem?_eq_some_iff.mp hx).1
    have hi2 := (List.getElem?_eq_some_iff.mp hy).1
    have hi3 := (List.getElem?_eq_some_iff.mp hu0).1
    have Wk := WalksT.zipD3 (prog := X.prog) (w := X.w) (A := X.A) D (draws_s (A := X.A.in1) (I.ok.hd hc) t1 i1 a (s_ne h1 p) its.toArray) (draws_s (A := X.A.in1) (I.ok.hd hc) t2 i2 b (s_ne h2 p2) its2.toArray) (draws_s (A := X.A.in1) (I.ok.hd hc) t3 i3 d (s_ne h3 p3) its3.toArray)
    refine wpAny_mono (walkT_item (xs := [x, y, u0]) Wk I ⟨hz, hTI, hTO, ⟨h1, p⟩, ⟨h2, p2⟩, ⟨h3, p3⟩⟩ (by rw [l1, l2, l3]; omega) (fun c hc' => hf c (by
      have e' : c = z ∨ c = TO ∨ c = i1 ∨ c = i2 ∨ c = i3 := by simpa using hc'
      rcases e' with q | q | q | q | q <;> simp [q])) (fun vals ⟨x1, x2, x3, q1, q2, q3, e⟩ => ?_) (by show 3 ≤ sizeLine; decide)) (fun r s1 ⟨u, e1, q⟩ => ⟨u, e1, wpAny_mono q (fun _ s2 ⟨T, eu, hn, hle, I2, st2, hk⟩ => ?_) fun _ _ e => e⟩) fun _ _ e => e
    · subst e
      obtain ⟨u, hu, ru⟩ := rv.get hx
      obtain ⟨u2, hu2, ru2⟩ := rv2.get hy
      obtain ⟨u3, hu3, ru3⟩ := rv3.get hu0
      have e1 : its[i]? = some x1 := by simpa using q1
      have e2 : its2[i]? = some x2 := by simpa using q2
      have e3 : its3[i]? = some x3 := by simpa using q3
      rw [hu] at e1; cases e1
      rw [hu2] at e2; cases e2
      rw [hu3] at e3; cases e3
      exact .cons ru (.cons ru2 (.cons ru3 .nil))
    · subst eu
      obtain ⟨z1, z2, z3, ⟨z4, _⟩, ⟨z5, _⟩, ⟨z6, _⟩⟩ := st2
      refine ⟨.ref T, _, I2, rfl, ⟨T, x, y, u0, rfl, hn, rfl, fun l hl => by rw [seq_inj I hl hqx]; exact hx, fun l hl => by rw [seq_inj I hl hqy]; exact hy, fun l hl => by rw [seq_inj I hl hqz]; exact hu0⟩, ⟨z1, z2, z3, z4, z5, z6⟩, fun c hcm => ?_⟩
      have hlt : c < s.heap.objs.size := by
        have e' : c = z ∨ c = TI ∨ c = TO ∨ c = i1 ∨ c = i2 ∨ c = i3 := by simpa using hcm
        rcases e' with q | q | q | q | q | q
        · rw [q]; exact Heap.lt_size hz
        · rw [q]; exact Heap.lt_size hTI
        · rw [q]; obtain ⟨_, _, _, hTO⟩ := hTO; exact Heap.lt_size hTO
        · rw [q]; obtain ⟨_, e1, _⟩ := h1.live; exact Heap.lt_size e1
        · rw [q]; obtain ⟨_, e2, _⟩ := h2.live; exact Heap.lt_size e2
        · rw [q]; obtain ⟨_, e3, _⟩ := h3.live; exact Heap.lt_size e3
      rw [upd_ne (Nat.ne_of_lt (Nat.lt_of_lt_of_le hlt hle))]
      exact (hf c hcm).1
  done := by
    intro X hP hw hK hc i pins s σ H E I hf st hg
    subst hP hw hK
    obtain ⟨hz, hTI, ⟨a1, a2, a3, hTO⟩, h1, h2, h3⟩ := st
    obtain ⟨xs, ys, zs, hqx, hqy, hqz, le1, le2, le3, hend⟩ := hg
    obtain ⟨its, rv, p, l1⟩ := inv_seq I hqx
    obtain ⟨its2, rv2, p2, l2⟩ := inv_seq I hqy
    obtain ⟨its3, rv3, p3, l3⟩ := inv_seq I hqz
    refine wpAny_pyNext_zipD3_end D (draws_s (A := X.A.in1) (I.ok.hd hc) t1 i1 a (s_ne h1 p) its.toArray) (draws_s (A := X.A.in1) (I.ok.hd hc) t2 i2 b (s_ne h2 p2) its2.toArray) (draws_s (A := X.A.in1) (I.ok.hd hc) t3 i3 d (s_ne h3 p3) its3.toArray)
      hz hTI hTO ⟨h1, p⟩ ⟨h2, p2⟩ ⟨h3, p3⟩ (by rw [l1]; exact le1) (by rw [l2]; exact le2) (by rw [l3]; exact le3) (by rw [l1, l2, l3]; exact hend) fun h' tk hk => ⟨rfl, ?_⟩
    exact I.turnedL (t' := tk) (ch := [z, TI, TO, i1, i2, i3]) (fun c o hb q => hk c o (fun q' => hb (by simp [q'])) (fun q' => hb (by simp [q'])) (fun q' => hb (by simp [q'])) (fun q' => hb (by simp [q'])) (fun q' => hb (by simp [q'])) q) hf
  self := fun A i s Q E st h => wpAny_pyIter_zip st.1 h
/-! ### enumerate -/
def ItE (K : PySem.W.Frag) (t : Bool) (a : Addr) : It :=
  ⟨fun i H => ∃ (xs : List V) (x : V), SqS K H t a xs ∧ xs[i]? = some x, fun i H v H' => ∃ T x, v = .ref T ∧ H T = none ∧ H' = upd H T (.tup [.int (i : Nat), x]) ∧ ∀ xs, SqS K H t a xs → xs[i]? = some x, fun i H => ∃ xs : List V, SqS K H t a xs ∧ i = xs.length⟩
theorem turn_enumS {P : Program} {w : World} {K : PySem.W.Frag} {elts : List Expr} {kk : Nat} {tpos : Pos} {t : Bool} {a e it : Addr} (hei : e ≠ it) (hea : e ≠ a) :
    Turn P w K (.Tuple elts kk tpos) (ItE K t a) [e, it] e (fun i h => (∃ old, IsEnum h e it (0 + (i : Int)) old) ∧ SIt t h it a i) where
  mem := by simp
  obj := fun i h st b hb => by
    obtain ⟨⟨old, he⟩, h1⟩ := st
    have e' : b = e ∨ b = it := by simpa using hb
    rcases e' with z | z
    · rw [z]; exact ⟨_, he, fun v q => nomatch q⟩
    · rw [z]; exact h1.live
  keep := fun i h h' st k => let ⟨⟨old, he⟩, hi⟩ := st; ⟨⟨old, k e (by simp) _ he⟩, hi.at_ fun o q => k it (by simp) o q⟩
  item := by
    intro X hP hw hK hc i pins s σ H E I hf st hg
    subst hP hw hK
    obtain ⟨he, h1⟩ := st
    obtain ⟨xs, x, hq, hx⟩ := hg
    obtain ⟨its, rv, p, l1⟩ := inv_seq I hq
    have hi1 := (List.getElem?_eq_some_iff.mp hx).1
    have Wk := WalksT.enumFrom (prog := X.prog) (w := X.w) (A := X.A) 0 (draws_s (A := X.A.in1) (I.ok.hd hc) t it a (s_ne h1 p) its.toArray) e hei (by simp [hei, hea]) (by simp)
    refine wpAny_mono (walkT_item (xs := [.int (i : Nat), x]) Wk I ⟨he, ⟨h1, p⟩⟩ (by rw [l1]; omega) (fun c hc' => hf c hc') (fun vals ⟨tk, x1, q1, ev⟩ => ?_) (by show 2 ≤ sizeLine; decide)) (fun r s1 ⟨u, e1, q⟩ => ⟨u, e1, wpAny_mono q (fun _ s2 ⟨T, eu, hn, hle, I2, st2, hk⟩ => ?_) fun _ _ e => e⟩) fun _ _ e => e
    · subst ev
      obtain ⟨u, hu, ru⟩ := rv.get hx
      have e1 : its[i]? = some x1 := by simpa using q1
      rw [hu] at e1; cases e1
      exact .cons ⟨tk, by rw [Int.zero_add]⟩ (.cons ru .nil)
    · subst eu
      obtain ⟨z1, ⟨z2, _⟩⟩ := st2
      refine ⟨.ref T, _, I2, rfl, ⟨T, x, rfl, hn, rfl, fun l hl => by rw [seq_inj I hl hq]; exact hx⟩, ⟨z1, z2⟩, fun c hcm => ?_⟩
      have hlt : c < s.heap.objs.size := by
        have e' : c = e ∨ c = it := by simpa using hcm
        rcases e' with q | q
        · rw [q]; obtain ⟨_, he⟩ := he; exact Heap.lt_size he
        · rw [q]; obtain ⟨_, e1, _⟩ := h1.live; exact Heap.lt_size e1
      rw [upd_ne (Nat.ne_of_lt (Nat.lt_of_lt_of_le hlt hle))]
      exact (hf c hcm).1
  done := by
    intro X hP hw hK hc i pins s σ H E I hf st hg
    subst hP hw hK
    obtain ⟨he, h1⟩ := st
    obtain ⟨xs, hq, hi⟩ := hg
    obtain ⟨its, rv, p, l1⟩ := inv_seq I hq
    have Wk := WalksT.enumFrom (prog := X.prog) (w := X.w) (A := X.A) 0 (draws_s (A := X.A.in1) (I.ok.hd hc) t it a (s_ne h1 p) its.toArray) e hei (by simp [hei, hea]) (by simp)
    refine walkT_done Wk I ?_ hf
    rw [l1, ← hi]
    exact ⟨he, h1, p⟩
  self := fun A i s Q E st h => let ⟨⟨_, he⟩, _⟩ := st; wpAny_pyIter_enum he h
set_option maxHeartbeats 1000000 in
theorem meets_enumerate_newB0 {v : Value} {o : Obj} {H : Heap → Prop} (B : Begins v o H) :
    Meets (Builtin.«enumerate.__new__» ⟨[.type "enumerate", v], []⟩) (fun _ R s => H s.heap ∧
      R (.ok (.ret (.ref (s.heap.push o).objs.size))) { s with heap := (s.heap.push o).push { cls := .type "enumerate", data := .fields #[.none, .bool false, .ref s.heap.objs.size, rawInt 0, .none, .none] } }) :=
  .of_wp fun prog w A R s h => by
    obtain ⟨hp, g, d, tk, os⟩ := s; obtain ⟨h1, h⟩ := h
    have hsub := sub_enumerate
    have q1 : ∀ {A' : Around} {E : Value → Shared → Prop} {Q : Value → Shared → Prop} {tk : Nat}, Q (.ref hp.objs.size) ⟨hp.push o, g, d, tk, os⟩ → wpAny (model prog w) A' (pyIter v) Q E ⟨hp, g, d, tk, os⟩ :=
      fun q => B.iter prog w _ _ ⟨hp, g, d, _, os⟩ _ h1 q
    wp_walk using q1
    refine wpAny_stack_any fun st => wpAny_pure ?_
    split
    · rename_i c _ _ _ _ _
      cases (c == Value.type "enumerate")
      · wp_walk using q1
        exact ⟨_, rfl, h⟩
      · wp_walk using q1
        exact ⟨_, rfl, h⟩
    · wp_walk using q1
      exact ⟨_, rfl, h⟩
end Dn
/-! Dn part 8: zip, enumerate, range over data. -/
namespace Dn
open PySem PySem.Spec PyProof.Rows L2
section
variable {prog : Program} {w : World} {A : Around} {E : Value → Shared → Prop} {s : Shared}
theorem enum_begins0 {v : Value} {o : Obj} {H : Heap → Prop} {Q : Value → Shared → Prop} (B : Begins v o H) (h1 : H s.heap)
    (h : ∀ h', IsEnum h' (s.heap.objs.size + 1) s.heap.objs.size 0 .none → h'.get? s.heap.objs.size = some o → h'.objs.size = s.heap.objs.size + 2 →
      (∀ b o, s.heap.get? b = some o → h'.get? b = some o) → Q (.ref (s.heap.objs.size + 1)) { s with heap := h' }) :
    wpAny (model prog w) A (call (.type "enumerate") [v]) Q E s := by
  refine callType_new F.called_enumerate (by decide) (F.typeCall_enumerate_1 _) (F.newCall_enumerate_1 _) (fun obj => F.args_object_init_2 obj _) F.entry_enumerate_new
    (meets_enumerate_newB0 B) ⟨h1, ?_⟩
  have hz : (s.heap.push o).objs.size = s.heap.objs.size + 1 := Heap.size_push ..
  show _ ∧ _
  rw [hz]
  have he : IsEnum ((s.heap.push o).push { cls := .type "enumerate", data := .fields #[.none, .bool false, .ref s.heap.objs.size, rawInt 0, .none, .none] }) (s.heap.objs.size + 1) s.heap.objs.size 0 .none := by
    have := Heap.get?_push_size (s.heap.push o) (o := { cls := .type "enumerate", data := .fields #[.none, .bool false, .ref s.heap.objs.size, rawInt 0, .none, .none] }) rfl
    rw [hz] at this; exact this
  refine ⟨⟨_, he, rfl⟩, h _ he (Heap.get?_push_of_some _ (Heap.get?_push_size _ B.free)) (by rw [Heap.size_push, hz]) fun b o x => Heap.get?_push_of_some _ (Heap.get?_push_of_some _ x)⟩
end
section
variable {X : Cx} {W : WX} {K : PySem.W.Frag} {w w1 w' : Wd} {H H1 H' : Hp} {η : Store} {fA : FA} {p pos tpos : Pos} {e e2 e3 : Expr}
/-- a list, a tuple, as it may be walked with others: kind, source -/
def sqOf : D → Store → Option Src
  | .tup xs, _ => some (.val xs)
  | .lst xs, _ => some (.val xs)
  | .scr xs, _ => some (.val xs)
  | .obj k, η => match η[k]? with
    | some (.lst _) => some (.dyn (objAt k))
    | _ => none
  | _, _ => none
/-- v is a sequence at a, of the kind t, whose items the source tells, now and later -/
structure SqOk (K : PySem.W.Frag) (w : Wd) (H : Hp) (t : Bool) (a : Addr) (src : Src) : Prop where
  now : ∃ xs, SqS K H t a xs
  at_ : ∀ i w' H' η x, Ext w H w' H' → HeapRel K w' H' η → src.at i η = some x → ∃ xs v, SqS K H' t a xs ∧ xs[i]? = some v ∧ RepV K w' H' v x
  fin : ∀ i w' H' η, Ext w H w' H' → HeapRel K w' H' η → src.fin i η → ∃ xs, SqS K H' t a xs ∧ xs.length = i
  le : ∀ i w' H' η x, Ext w H w' H' → HeapRel K w' H' η → src.at i η = some x → ∃ xs, SqS K H' t a xs ∧ i ≤ xs.length
def lisD : D → Bool
  | .tup _ => false
  | _ => true
theorem sqOk3 {v : V} {d : D} {src : Src} (hr : HeapRel K w H η) (rv : RepV K w H v d) (h : sqOf d η = some src) : ∃ t a, v = .ref a ∧ SqOk K w H t a src ∧ (lisD d = true → t = false) := by
  have mk : ∀ {t : Bool} {a : Addr} {xs : List V} {ds : List D}, (∀ w' H', Ext w H w' H' → SqS K H' t a xs) → RepVs K w H xs ds → SqOk K w H t a (.val ds) := fun {t a xs ds} hs r => by
    refine ⟨⟨xs, hs w H .refl⟩, fun i w' H' η x ex _ hx => ?_, fun i w' H' η ex _ hf => ⟨xs, hs _ _ ex, by rw [r.length]; exact hf⟩, fun i w' H' η x ex _ hx => ⟨xs, hs _ _ ex, ?_⟩⟩
    · obtain ⟨v, hv, rv⟩ := r.get (show ds[i]? = some x from hx)
      exact ⟨_, v, hs _ _ ex, hv, rv.ext ex⟩
    · rw [r.length]; exact Nat.le_of_lt (List.getElem?_eq_some_iff.mp (show ds[i]? = some x from hx)).1
  cases d with
  | tup ds =>
    cases rv with | tup hs r => ?_
    cases h
    exact ⟨true, _, rfl, mk (fun _ _ ex => (hs.ext ex).sq) r, fun q => by cases q⟩
  | lst ds =>
    cases rv with | lst hs r => ?_
    cases h
    exact ⟨false, _, rfl, mk (fun _ _ ex => (hs.ext ex).sq) r, fun _ => rfl⟩
  | scr ds =>
    cases rv with | scr hs r => ?_
    cases h
    exact ⟨false, _, rfl, mk (fun _ _ ex => (hs.ext ex).sq) r, fun _ => rfl⟩
  | obj k =>
    cases rv with | obj ha => ?_
    dsimp only [sqOf] at h
    split at h
    · rename_i ds0 eo0
      cases h
      obtain ⟨ys, e0, _⟩ := hr.at_ _ _ _ ha eo0
      have get : ∀ {i : Nat} {w' : Wd} {H' : Hp} {η : Store} {r : Option D}, Ext w H w' H' → HeapRel K w' H' η → objAt k i η = some r → ∃ xs ds, SqL K H' _ xs ∧ RepVs K w' H' xs ds ∧ i ≤ ds.length ∧ ds[i]? = r := fun {i w' H' η r} ex hr' hx => by
        dsimp only [objAt] at hx
        cases eo : η[k]? with
        | none => rw [eo] at hx; cases hx
        | some ob =>
          rw [eo] at hx
          cases ob with
          | lst ds =>
            dsimp only at hx
            split at hx
            · rename_i hl
              obtain ⟨xs, eH, r⟩ := hr'.at_ _ _ _ (ex.toMv.get ha) eo
              exact ⟨xs, ds, SqL.of eH, r, hl, Option.some.inj hx⟩
            · cases hx
          | _ => cases hx
      have some_of : ∀ {i : Nat} {η : Store} {x : D}, (Src.dyn (objAt k)).at i η = some x → objAt k i η = some (some x) := fun {i η x} hx => by
        dsimp only [Src.at] at hx
        split at hx
        · rename_i e; cases hx; exact e
        · cases hx
      refine ⟨false, _, rfl, ⟨⟨ys, SqL.of e0⟩, fun i w' H' η x ex hr' hx => ?_, fun i w' H' η ex hr' hf => ?_, fun i w' H' η x ex hr' hx => ?_⟩, fun _ => rfl⟩
      · obtain ⟨xs, ds, hs, r, _, e⟩ := get ex hr' (some_of hx)
        obtain ⟨v, hv, rv⟩ := r.get e
        exact ⟨xs, v, hs, hv, rv⟩
      · obtain ⟨xs, ds, hs, r, hl, e⟩ := get ex hr' hf
        exact ⟨xs, hs, by rw [r.length]; exact Nat.le_antisymm (List.getElem?_eq_none_iff.mp e) hl⟩
      · obtain ⟨xs, ds, hs, r, hl, _⟩ := get ex hr' (some_of hx)
        exact ⟨xs, hs, by rw [r.length]; exact hl⟩
    · cases h
  | _ => cases h
theorem sqOk {v : V} {d : D} {src : Src} (hr : HeapRel K w H η) (rv : RepV K w H v d) (h : sqOf d η = some src) : ∃ t a, v = .ref a ∧ SqOk K w H t a src :=
  let ⟨t, a, e, k, _⟩ := sqOk3 hr rv h; ⟨t, a, e, k⟩
theorem sqOk_l {v : V} {d : D} {src : Src} (hr : HeapRel K w H η) (rv : RepV K w H v d) (h : sqOf d η = some src) (hl : lisD d = true) : ∃ a, v = .ref a ∧ SqOk K w H false a src := by
  obtain ⟨t, a, e, k, q⟩ := sqOk3 hr rv h
  rw [q hl] at k
  exact ⟨a, e, k⟩
def Src.look : Src → Nat → Store → Option (Option D)
  | .val xs, i, _ => if i ≤ xs.length then some xs[i]? else none
  | .dyn f, i, η => f i η
theorem look_at {src : Src} {i : Nat} {x : D} (h : src.look i η = some (some x)) : src.at i η = some x := by
  cases src with
  | val xs => dsimp only [Src.look] at h; split at h; exact Option.some.inj h; cases h
  | dyn f => dsimp only [Src.look] at h; dsimp only [Src.at]; rw [h]
theorem look_fin {src : Src} {i : Nat} (h : src.look i η = some none) : src.fin i η := by
  cases src with
  | val xs => dsimp only [Src.look] at h; split at h; exact Nat.le_antisymm (List.getElem?_eq_none_iff.mp (Option.some.inj h)) (by assumption); cases h
  | dyn f => exact h
def zipF (s1 s2 : Src) (i : Nat) (η : Store) : Option (Option D) := match s1.look i η with
  | none => none
  | some r1 => match s2.look i η with
    | none => none
    | some r2 => some (match r1 with
      | none => none
      | some x => match r2 with
        | none => none
        | some y => some (.tup [x, y]))
def zipS (s1 s2 : Src) : Src := match s1, s2 with
  | .val xs, .val ys => .val (List.zipWith (fun x y => .tup [x, y]) xs ys)
  | s1, s2 => .dyn (zipF s1 s2)
theorem itOk_zip {t1 t2 : Bool} {a b : Addr} {s1 s2 : Src} (h1 : SqOk K w H t1 a s1) (h2 : SqOk K w H t2 b s2) : ItOk K (It2 K t1 t2 a b) (zipS s1 s2) w H := by
  have go : ∀ i w' H' η x y, Ext w H w' H' → HeapRel K w' H' η → s1.at i η = some x → s2.at i η = some y →
      (It2 K t1 t2 a b).go i H' ∧ ∀ v H2, (It2 K t1 t2 a b).yld i H' v H2 → Ext w' H' w' H2 ∧ HeapRel K w' H2 η ∧ RepV K w' H2 v (.tup [x, y]) := fun i w' H' η x y ex hr e1 e2 => by
    obtain ⟨xs, v1, q1, f1, r1⟩ := h1.at_ i w' H' η x ex hr e1
    obtain ⟨ys, v2, q2, f2, r2⟩ := h2.at_ i w' H' η y ex hr e2
    refine ⟨⟨xs, ys, v1, v2, q1, q2, f1, f2⟩, fun v H2 ⟨T, u1, u2, ev, hn, eH, g1, g2⟩ => ?_⟩
    subst ev eH
    have k1 := g1 xs q1
    have k2 := g2 ys q2
    rw [f1] at k1; cases k1
    rw [f2] at k2; cases k2
    exact ⟨Ext.laid hn hr, hr.laid hn, RepV.newT hr (.cons r1 (.cons r2 .nil)) hn⟩
  have stop : ∀ i w' H' η, Ext w H w' H' → HeapRel K w' H' η → (s1.fin i η ∧ ((∃ y, s2.at i η = some y) ∨ s2.fin i η)) ∨ ((∃ x, s1.at i η = some x) ∧ s2.fin i η) → (It2 K t1 t2 a b).stop i H' := fun i w' H' η ex hr q => by
    rcases q with ⟨f1, ⟨y, e2⟩ | f2⟩ | ⟨⟨x, e1⟩, f2⟩
    · obtain ⟨xs, q1, l1⟩ := h1.fin i w' H' η ex hr f1
      obtain ⟨ys, q2, l2⟩ := h2.le i w' H' η y ex hr e2
      exact ⟨xs, ys, q1, q2, Nat.le_of_eq l1.symm, l2, .inl l1.symm⟩
    · obtain ⟨xs, q1, l1⟩ := h1.fin i w' H' η ex hr f1
      obtain ⟨ys, q2, l2⟩ := h2.fin i w' H' η ex hr f2
      exact ⟨xs, ys, q1, q2, Nat.le_of_eq l1.symm, Nat.le_of_eq l2.symm, .inl l1.symm⟩
    · obtain ⟨xs, q1, l1⟩ := h1.le i w' H' η x ex hr e1
      obtain ⟨ys, q2, l2⟩ := h2.fin i w' H' η ex hr f2
      exact ⟨xs, ys, q1, q2, l1, Nat.le_of_eq l2.symm, .inr l2.symm⟩
  have dyn : ItOk K (It2 K t1 t2 a b) (.dyn (zipF s1 s2)) w H := by
    have res : ∀ i η r, zipF s1 s2 i η = some r → ∃ r1 r2, s1.look i η = some r1 ∧ s2.look i η = some r2 ∧ r = (match r1 with
      | none => none
      | some x => match r2 with
        | none => none
        | some y => some (.tup [x, y])) := fun i η r h => by
      unfold zipF at h
      cases e1 : s1.look i η with
      | none => rw [e1] at h; cases h
      | some r1 =>
        rw [e1] at h
        cases e2 : s2.look i η with
        | none => rw [e2] at h; cases h
        | some r2 => rw [e2] at h; exact ⟨r1, r2, rfl, rfl, (Option.some.inj h).symm⟩
    refine ⟨fun i w' H' η x ex hr hx => ?_, fun i w' H' η ex hr hf => ?_⟩
    · dsimp only [Src.at] at hx
      cases ez : zipF s1 s2 i η with
      | none => rw [ez] at hx; cases hx
      | some r =>
        rw [ez] at hx
        obtain ⟨r1, r2, l1, l2, er⟩ := res i η r ez
        cases r1 with
        | none => subst er; cases hx
        | some x1 =>
          cases r2 with
          | none => subst er; cases hx
          | some x2 => subst er; cases hx; exact go i w' H' η _ _ ex hr (look_at l1) (look_at l2)
    · obtain ⟨r1, r2, l1, l2, er⟩ := res i η none hf
      cases r1 with
      | none =>
        refine stop i w' H' η ex hr (.inl ⟨look_fin l1, ?_⟩)
        cases r2 with
        | none => exact .inr (look_fin l2)
        | some y => exact .inl ⟨y, look_at l2⟩
      | some x1 =>
        cases r2 with
        | none => exact stop i w' H' η ex hr (.inr ⟨⟨x1, look_at l1⟩, look_fin l2⟩)
        | some x2 => cases er
  cases s1 with
  | dyn f => exact dyn
  | val xs =>
    cases s2 with
    | dyn f => exact dyn
    | val ys =>
      refine ⟨fun i w' H' η x ex hr hx => ?_, fun i w' H' η ex hr hf => ?_⟩
      · have hx' : (List.zipWith (fun x y => D.tup [x, y]) xs ys)[i]? = some x := hx
        rw [List.getElem?_zipWith] at hx'
        split at hx'
        · rename_i e1 e2
          cases hx'
          exact go i w' H' η _ _ ex hr e1 e2
        · cases hx'
      · have hf' : (List.zipWith (fun x y => D.tup [x, y]) xs ys).length = i := hf
        rw [List.length_zipWith] at hf'
        by_cases hl : xs.length ≤ ys.length
        · have e1 : xs.length = i := by omega
          refine stop i w' H' η ex hr (.inl ⟨e1, ?_⟩)
          by_cases hy : ys.length = i
          · exact .inr hy
          · exact .inl ⟨_, List.getElem?_eq_getElem (by omega)⟩
        · exact stop i w' H' η ex hr (.inr ⟨⟨_, List.getElem?_eq_getElem (show i < xs.length by omega)⟩, (show ys.length = i by omega)⟩)
theorem lt_one {a n : Addr} (h : a < n) : ∀ c ∈ [a], c < n := fun c hc => by
  have e : c = a := by simpa using hc
  rw [e]
  exact h
def iZip (fA : FA) : FI := fun ρ η => (fA ρ η).bind fun ds η => match ds with
  | [x, y] => (match sqOf x η, sqOf y η with
    | some s1, some s2 => .ok (zipS s1 s2) η
    | _, _ => .no)
  | _ => .no
/-- for a, b in zip(x, y) -/
theorem di_zip {elts : List Expr} {kk : Nat} (hm : X.mg "zip" = none) (ha : DA X W [e, e2] fA) (hg : Gl X "zip" := by rfl)
    (hs : starEach [e, e2] X.env = (false, eval e X.env) :: starEach [e2] X.env := by rfl) (hpl : (backTo pos (starEach [e2] X.env)).any (·.1) = false := by rfl) :
    DI X W (.Tuple elts kk tpos) (.Call (.Name "zip" p) [e, e2] [] pos) (iZip fA) := by
  refine ⟨fun pins s σ H R I ⟨w, ρ, η, rel, hp⟩ => ?_⟩
  refine Call_ (ld_blt I hg hm PyProof.Rows.boot_zip (PyProof.Rows.callWith_type1 (thn (ha.run pos pins s σ H _ I (rdA_then rel hp)) fun us s1 ⟨vs, H1, I1, r1, w1, ds, η1, ex, rel1, rv, p1⟩ => ?_) hs hpl))
  split at p1
  case h_2 => exact p1.elim
  rename_i x y
  split at p1
  case h_2 => exact p1.elim
  rename_i s1' s2' q1 q2
  cases rv with | cons rv1 rr => ?_
  cases rr with | cons rv2 rr => ?_
  cases rr
  obtain ⟨t1, a, ea, k1⟩ := sqOk rel1.heap rv1 q1
  obtain ⟨t2, b, eb, k2⟩ := sqOk rel1.heap rv2 q2
  subst ea eb
  cases r1 with | cons r1 rr => ?_
  cases rr with | cons r2 rr => ?_
  cases rr; cases r1; cases r2
  obtain ⟨xs, hx⟩ := k1.now
  obtain ⟨ys, hy⟩ := k2.now
  obtain ⟨its, _, pa, _⟩ := inv_seq I1 hx
  obtain ⟨its2, _, pb, _⟩ := inv_seq I1 hy
  have la := seq_lt I1 hx
  have lb := seq_lt I1 hy
  refine zip_begins2 (begins_s t1 a its.toArray) (begins_s t2 b its2.toArray) pa pb fun h' hz hTI hTO g1 g2 hsz hk => wpAny_pyIter_zip hz ?_
  have I2 : Inv X pins σ H1 { s1 with heap := h' } := I1.kept (t' := s1.toks) hk
  have D : ZipSep2 (s1.heap.objs.size + 4) (s1.heap.objs.size + 2) (s1.heap.objs.size + 3) s1.heap.objs.size (s1.heap.objs.size + 1) [s1.heap.objs.size, a] [s1.heap.objs.size + 1, b] :=
    zip_sep2 (N := s1.heap.objs.size) (fp1 := [a]) (fp2 := [b]) (lt_one la) (lt_one lb)
  refine ⟨s1.heap.objs.size + 4, [s1.heap.objs.size + 4, s1.heap.objs.size + 2, s1.heap.objs.size + 3, s1.heap.objs.size, s1.heap.objs.size + 1], _, It2 X.K t1 t2 a b, H1, rfl, I2, turn_zip2 D, ⟨hz, hTI, ⟨_, _, hTO⟩, .new g1, .new g2⟩, fun c hc => ?_, ?_⟩
  · have e' : c = s1.heap.objs.size + 4 ∨ c = s1.heap.objs.size + 2 ∨ c = s1.heap.objs.size + 3 ∨ c = s1.heap.objs.size ∨ c = s1.heap.objs.size + 1 := by simpa using hc
    have hle : s1.heap.objs.size ≤ c := by
      rcases e' with z | z | z | z | z
      · rw [z]; exact Nat.le_add_right _ _
      · rw [z]; exact Nat.le_add_right _ _
      · rw [z]; exact Nat.le_add_right _ _
      · rw [z]; exact Nat.le_refl _
      · rw [z]; exact Nat.le_add_right _ _
    exact I1.fpOk hle (I1.hok.fresh hle)
  · exact p1 _ w1 H1 .refl rel1.heap (itOk_zip k1 k2)
/-! ### enumerate -/
def enumS (s : Src) : Src := match s with
  | .val xs => .val (xs.zipIdx.map fun q => .tup [.int (q.2 : Nat), q.1])
  | .dyn f => .dyn fun i η => match f i η with
    | some (some x) => some (some (.tup [.int (i : Nat), x]))
    | some none => some none
    | none => none
theorem itOk_enum {t : Bool} {a : Addr} {s1 : Src} (h1 : SqOk K w H t a s1) : ItOk K (ItE K t a) (enumS s1) w H := by
  have go : ∀ i w' H' η x, Ext w H w' H' → HeapRel K w' H' η → s1.at i η = some x →
      (ItE K t a).go i H' ∧ ∀ v H2, (ItE K t a).yld i H' v H2 → Ext w' H' w' H2 ∧ HeapRel K w' H2 η ∧ RepV K w' H2 v (.tup [.int (i : Nat), x]) := fun i w' H' η x ex hr e1 => by
    obtain ⟨xs, v1, q1, f1, r1⟩ := h1.at_ i w' H' η x ex hr e1
    refine ⟨⟨xs, v1, q1, f1⟩, fun v H2 ⟨T, u1, ev, hn, eH, g1⟩ => ?_⟩
    subst ev eH
    have k1 := g1 xs q1
    rw [f1] at k1; cases k1
    exact ⟨Ext.laid hn hr, hr.laid hn, RepV.newT hr (.cons (.int _) (.cons r1 .nil)) hn⟩
  have stop : ∀ i w' H' η, Ext w H w' H' → HeapRel K w' H' η → s1.fin i η → (ItE K t a).stop i H' := fun i w' H' η ex hr f1 => by
    obtain ⟨xs, q1, l1⟩ := h1.fin i w' H' η ex hr f1
    exact ⟨xs, q1, l1.symm⟩
  cases s1 with
  | val xs =>
    refine ⟨fun i w' H' η x ex hr hx => ?_, fun i w' H' η ex hr hf => stop i w' H' η ex hr ?_⟩
    · have hx' : (xs.zipIdx.map fun q => D.tup [.int (q.2 : Nat), q.1])[i]? = some x := hx
      rw [List.getElem?_map, List.getElem?_zipIdx] at hx'
      cases e : xs[i]? with
      | none => rw [e] at hx'; cases hx'
      | some y =>
        rw [e] at hx'
        simp at hx'
        subst hx'
        exact go i w' H' η y ex hr e
    · have hf' : (xs.zipIdx.map fun q => D.tup [.int (q.2 : Nat), q.1]).length = i := hf
      show xs.length = i
      simpa using hf'
  | dyn f =>
    refine ⟨fun i w' H' η x ex hr hx => ?_, fun i w' H' η ex hr hf => stop i w' H' η ex hr ?_⟩
    · dsimp only [enumS, Src.at] at hx
      split at hx
      · rename_i z ez
        cases hx
        split at ez
        · rename_i e
          cases ez
          exact go i w' H' η _ ex hr (by dsimp only [Src.at]; rw [e])
        · cases ez
        · cases ez
      · cases hx
    · dsimp only [enumS, Src.fin] at hf
      split at hf
      · cases hf
      · rename_i e; exact e
      · cases hf
def iEnumS (fA : FA) : FI := fun ρ η => (fA ρ η).bind fun ds η => match ds with
  | [x] => (match sqOf x η with
    | some s1 => .ok (enumS s1) η
    | _ => .no)
  | _ => .no
theorem di_enum {elts : List Expr} {kk : Nat} (hm : X.mg "enumerate" = none) (ha : DA X W [e] fA) (hg : Gl X "enumerate" := by rfl)
    (hs : starEach [e] X.env = [(false, eval e X.env)] := by rfl) :
    DI X W (.Tuple elts kk tpos) (.Call (.Name "enumerate" p) [e] [] pos) (iEnumS fA) := by
  refine ⟨fun pins s σ H R I ⟨w, ρ, η, rel, hp⟩ => ?_⟩
  refine Call_ (ld_blt I hg hm boot_enumerate (PyProof.Rows.callWith_type1 (thn (ha.run pos pins s σ H _ I (rdA_then rel hp)) fun us s1 ⟨vs, H1, I1, r1, w1, ds, η1, ex, rel1, rv, p1⟩ => ?_) hs rfl))
  split at p1
  case h_2 => exact p1.elim
  rename_i x
  split at p1
  case h_2 => exact p1.elim
  rename_i s1' q1
  cases rv with | cons rv1 rr => ?_
  cases rr
  obtain ⟨t1, a, ea, k1⟩ := sqOk rel1.heap rv1 q1
  subst ea
  cases r1 with | cons r1 rr => ?_
  cases rr; cases r1
  obtain ⟨xs, hx⟩ := k1.now
  obtain ⟨its, _, pa, _⟩ := inv_seq I1 hx
  have la := seq_lt I1 hx
  refine enum_begins0 (begins_s t1 a its.toArray) pa fun h' he g1 hsz hk => wpAny_pyIter_enum he ?_
  have I2 : Inv X pins σ H1 { s1 with heap := h' } := I1.kept (t' := s1.toks) hk
  refine ⟨s1.heap.objs.size + 1, [s1.heap.objs.size + 1, s1.heap.objs.size], _, ItE X.K t1 a, H1, rfl, I2, turn_enumS (it := s1.heap.objs.size) (Nat.succ_ne_self _) (Nat.ne_of_gt (Nat.lt_succ_of_lt la)), ⟨⟨.none, by simpa using he⟩, .new g1⟩, fun c hc => ?_, ?_⟩
  · have e' : c = s1.heap.objs.size + 1 ∨ c = s1.heap.objs.size := by simpa using hc
    have hle : s1.heap.objs.size ≤ c := by
      rcases e' with z | z
      · rw [z]; exact Nat.le_add_right _ _
      · rw [z]; exact Nat.le_refl _
    exact I1.fpOk hle (I1.hok.fresh hle)
  · exact p1 _ w1 H1 .refl rel1.heap (itOk_enum k1)
/-! ### range -/
def rng (lo : Int) (n : Nat) : List D := (List.range n).map fun i => .int (lo + (i : Nat))
theorem itOk_rng {lo : Int} {n : Nat} : ItOk K (Itr lo n) (.val (rng lo n)) w H := by
  refine ⟨fun i w' H' η x ex hr hx => ?_, fun i w' H' η ex hr hf => ?_⟩
  · have hx' : ((List.range n).map fun i => D.int (lo + (i : Nat)))[i]? = some x := hx
    rw [List.getElem?_map] at hx'
    by_cases hi : i < n
    · rw [List.getElem?_range hi] at hx'
      cases hx'
      refine ⟨hi, fun v H2 ⟨e1, e2⟩ => ?_⟩
      subst e1 e2
      exact ⟨.refl, hr, .int _⟩
    · rw [List.getElem?_eq_none (by simpa using hi)] at hx'; cases hx'
  · have hf' : (rng lo n).length = i := hf
    show n ≤ i
    rw [← hf']; simp [rng]
def big62 (i : Int) : Prop := -(2 ^ 62) ≤ i ∧ i < 2 ^ 62
instance (i : Int) : Decidable (big62 i) := by unfold big62; infer_instance
def iRng1 (fA : FA) : FI := fun ρ η => (fA ρ η).bind fun ds η => match ds with
  | [.int j] => if big62 j then .ok (.val (rng 0 j.toNat)) η else .no
  | _ => .no
def iRng2 (fA : FA) : FI := fun ρ η => (fA ρ η).bind fun ds η => match ds with
  | [.int i, .int j] => if big62 i ∧ big62 j then .ok (.val (rng i (j - i).toNat)) η else .no
  | _ => .no
theorem di_range1 {tg : Expr} (hm : X.mg "range" = none) (ha : DA X W [e] fA) (hg : Gl X "range" := by rfl) (hs : starEach [e] X.env = [(false, eval e X.env)] := by rfl) : DI X W tg (.Call (.Name "range" p) [e] [] pos) (iRng1 fA) :=
  PI.imp (pi_range1 hg hm ha hs) fun σ H R ⟨w, ρ, η, rel, p⟩ => by
    obtain ⟨w, ρ, η, rel, q⟩ := rdA_then rel p
    refine ⟨w, ρ, η, rel, q.imp fun vs H1 ⟨w1, ds, η1, e, rel1, rv, p1⟩ => ?_⟩
    split at p1
    · split at p1
      · rename_i hb
        cases rv with | cons r1 rr => ?_
        cases rr; cases r1
        exact ⟨_, rfl, hb.1, hb.2, p1 _ w1 H1 .refl rel1.heap itOk_rng⟩
      · exact p1.elim
    · exact p1.elim
theorem di_range2 {tg : Expr} (hm : X.mg "range" = none) (ha : DA X W [e, e2] fA) (hg : Gl X "range" := by rfl) (hs : starEach [e, e2] X.env = [(false, eval e X.env), (false, eval e2 X.env)] := by rfl) (hs2 : starEach [e2] X.env = [(false, eval e2 X.env)] := by rfl) :
    DI X W tg (.Call (.Name "range" p) [e, e2] [] pos) (iRng2 fA) :=
  PI.imp (pi_range2 hg hm ha hs hs2) fun σ H R ⟨w, ρ, η, rel, p⟩ => by
    obtain ⟨w, ρ, η, rel, q⟩ := rdA_then rel p
    refine ⟨w, ρ, η, rel, q.imp fun vs H1 ⟨w1, ds, η1, e, rel1, rv, p1⟩ => ?_⟩
    split at p1
    · split at p1
      · rename_i hb
        cases rv with | cons r1 rr => ?_
        cases rr with | cons r2 rr => ?_
        cases rr; cases r1; cases r2
        exact ⟨_, _, rfl, ⟨hb.1.1, hb.1.2, hb.2.1, hb.2.2⟩, p1 _ w1 H1 .refl rel1.heap itOk_rng⟩
      · exact p1.elim
    · exact p1.elim
end
end Dn
/-! Dn part 9: isinstance, sums, greatest and least, dicts of pairs, sorted. -/
namespace Dn
open PySem PySem.Spec PyProof.Rows L2
section
variable {X : Cx} {W : WX} {K : PySem.W.Frag} {w w1 w' : Wd} {H H1 H' : Hp} {η : Store}
/-! ### isinstance of built-in types -/
inductive Ty where
  | non | bool | int | str | tuple | list | dict
  deriving DecidableEq
def Ty.nm : Ty → String
  | .non => "NoneType" | .bool => "bool" | .int => "int" | .str => "str" | .tuple => "tuple" | .list => "list" | .dict => "dict"
def tyOf : D → Store → Option Ty
  | .non, _ => some .non
  | .bl _, _ => some .bool
  | .int _, _ => some .int
  | .str _, _ => some .str
  | .tup _, _ => some .tuple
  | .lst _, _ => some .list
  | .scr _, _ => some .list
  | .obj i, η => match η[i]? with
    | some (.lst _) => some .list
    | some (.dK _) => some .dict
    | some (.dT _) => some .dict
    | _ => none
  | _, _ => none
theorem tyOf_ok {v : V} {d : D} {t : Ty} (hr : HeapRel K w H η) (rv : RepV K w H v d) (h : tyOf d η = some t) : TyX K H v (.type t.nm) := by
  cases d with
  | non => cases rv; cases h; exact .base .non
  | bl b => cases rv; cases h; exact .base (.bl b)
  | int i => cases rv; cases h; exact .base (.int i)
  | str x => cases rv; cases h; exact .base (.str x)
  | tup xs =>
    cases rv with | tup hs r => ?_
    cases h
    exact .base (.tup hs.1)
  | lst xs =>
    cases rv with | lst hs r => ?_
    cases h
    exact .base (.lst hs.1)
  | scr xs =>
    cases rv with | scr hs r => ?_
    cases h
    rcases hs with ⟨hs | ⟨o, hs⟩, _⟩ | ⟨o, its, n, hk, hc, _⟩
    · exact .base (.lst hs)
    · exact .base (.frz hs)
    · exact .kList hk hc
  | obj i =>
    cases rv with | obj ha => ?_
    dsimp only [tyOf] at h
    cases eo : η[i]? with
    | none => rw [eo] at h; cases h
    | some ob =>
      rw [eo] at h
      cases ob with
      | lst xs => cases h; obtain ⟨ys, e, _⟩ := hr.at_ _ _ _ ha eo; exact .base (.lst e)
      | dK xs => cases h; obtain ⟨ys, e, _⟩ := hr.at_ _ _ _ ha eo; exact .base (.dK e)
      | dT xs => cases h; obtain ⟨ys, e, _⟩ := hr.at_ _ _ _ ha eo; exact .base (.dT e)
      | ins c fs => cases h
      | lkK fs => cases h
      | lkT fs => cases h
  | gl x => cases h
  | ty n => cases h
  | adr a => cases h
def tyB : Ty → Ty → Bool
  | .bool, .int => true
  | a, b => decide (a = b)
theorem tyB_ok (a b : Ty) (hb : b ≠ .non) : PySem.W.kitOne K (.type a.nm) (.type b.nm) = some (tyB a b) := by
  cases b with
  | non => exact absurd rfl hb
  | bool => cases a <;> exact kit_ty (by decide +kernel)
  | int => cases a <;> exact kit_ty (by decide +kernel)
  | str => cases a <;> exact kit_ty (by decide +kernel)
  | tuple => cases a <;> exact kit_ty (by decide +kernel)
  | list => cases a <;> exact kit_ty (by decide +kernel)
  | dict => cases a <;> exact kit_ty (by decide +kernel)
def tyNm : String → Option Ty
  | "bool" => some .bool | "int" => some .int | "str" => some .str | "tuple" => some .tuple | "list" => some .list | "dict" => some .dict | _ => none
theorem tyNm_ok {n : String} {t : Ty} (h : tyNm n = some t) : t.nm = n ∧ t ≠ .non := by
  unfold tyNm at h
  split at h <;> first | (cases h; exact ⟨rfl, by decide⟩) | cases h
def isiD : GL := fun ds η => match ds with
  | [d, .ty n] => (match tyOf d η with
    | some a => (match tyNm n with
      | some b => some (.bl (tyB a b), η)
      | none => none)
    | none => none)
  | _ => none
theorem callD_isi : CallR X (.builtin "isinstance") (rdL X.K isiD) := call_of call_isi fun hr r h p => by
  unfold isiD at h
  split at h
  · rename_i d n
    split at h
    · rename_i a ea
      split at h
      · rename_i b eb
        cases h
        cases r with | cons r1 rr => ?_
        cases rr with | cons r2 rr => ?_
        cases rr; cases r2
        obtain ⟨e, ne⟩ := tyNm_ok eb
        refine ⟨_, _, _, _, _, rfl, .ty n, tyOf_ok hr r1 ea, ?_, val_of p hr (.bl _)⟩
        rw [← e]
        exact tyB_ok a b ne
      · cases h
    · cases h
  · cases h
/-! ### sum, max, min -/
theorem iter_tupW {prog : Program} {wl : World} {A : Around} {E : Value → Shared → Prop} {s : Shared} {l : Addr} {its : Array Value} {Q : Value → Shared → Prop} (hl : s.heap.IsTuple l its)
    (h : ∀ s₂ : Shared, s₂ = { s with heap := s.heap.push { cls := .type "tuple_iterator", data := .fields #[.ref l, .int 0 0] } } →
      (s₂.heap.IsTupleIter s.heap.objs.size l 0 ∧ s₂.heap.IsTuple l its) → (∀ b ∈ [s.heap.objs.size, l], b < s₂.heap.objs.size) → l ≠ s.heap.objs.size → Q (.ref s.heap.objs.size) s₂) :
    wpAny (model prog wl) A (pyIter (.ref l)) Q E s := by
  have hlt : l < s.heap.objs.size := by obtain ⟨_, e, _⟩ := hl; exact Heap.lt_size e
  refine wpAny_pyIter_tuple hl (h _ rfl ⟨⟨_, Heap.get?_push_size _ rfl, rfl, rfl⟩, hl.push _⟩ (fun b hb => ?_) (Nat.ne_of_lt hlt))
  show b < (s.heap.push _).objs.size
  rw [Heap.size_push]
  have e : b = s.heap.objs.size ∨ b = l := by simpa using hb
  rcases e with e | e
  · rw [e]; exact Nat.lt_succ_self _
  · rw [e]; exact Nat.lt_succ_of_lt hlt
theorem keptW {s : Shared} {o : Obj} {h' : Heap} (hk : ∀ b ob, b ∉ [s.heap.objs.size] → (s.heap.push o).get? b = some ob → h'.get? b = some ob) : ∀ b ob, s.heap.get? b = some ob → h'.get? b = some ob := fun b ob e =>
  hk b ob (by simpa using Nat.ne_of_lt (Heap.lt_size e)) (Heap.get?_push_of_some _ e)
def rSumT (K : PySem.W.Frag) : List V → Hp → VK → Prop := fun vs H Q => ∃ (a : Addr) (ns : List Int), vs = [V.ref a] ∧ SqT K H a (ns.map V.int) ∧ Q (.int ns.sum) H
theorem cr_sumT (hc : X.calm = true) : CallR X (.builtin "sum") (rSumT X.K) := by
  intro pins s σ H vs us Q I r h
  obtain ⟨a, ns, rfl, hs, q⟩ := h
  obtain ⟨its, rv, hl, _⟩ := I.tuple hs
  rw [Vals.ref1 r]
  refine call_sum_walkG (iter_tupW hl fun s₂ e st hfp hlI => ?_)
  subst e
  refine ⟨_, _, _, _, _, _, fun i => ns.getD i 0, rfl, Walks.tuple (A := X.A.in1) (I.ok.hd hc) _ a hlI its.toArray, st, hfp, fun i v hv => ?_, fun h' tk t' hk => ?_⟩
  · have hv' : its[i]? = some v := by simpa using hv
    have hi : i < ns.length := by
      have := (List.getElem?_eq_some_iff.mp hv').1
      have l := rv.length
      simp at l; omega
    obtain ⟨u, hu, ru⟩ := rv.get (i := i) (x := .int (ns[i])) (by rw [List.getElem?_map, List.getElem?_eq_getElem hi]; rfl)
    rw [hv'] at hu; cases hu
    obtain ⟨t, rfl⟩ := ru
    exact ⟨t, by simp [List.getD, List.getElem?_eq_getElem hi]⟩
  · refine ⟨.int ns.sum, H, I.kept (keptW hk), ⟨t', ?_⟩, q⟩
    have l := rv.length
    simp at l
    rw [preSum_getD, List.take_of_length_le (by simp; omega)]
def seqA : D → Store → Option (List D)
  | .tup xs, _ => some xs
  | d, η => seqL d η
def sumD : GL := fun ds η => match ds with
  | [.tup xs] => (intsOf xs).map fun ns => (.int ns.sum, η)
  | [d] => match seqL d η with
    | some xs => (intsOf xs).map fun ns => (.int ns.sum, η)
    | none => none
  | _ => none
theorem callD_sum (hc : X.calm = true) : CallR X (.builtin "sum") (rdL X.K sumD) := call_of (CallR.or (cr_sum hc) (cr_sumT hc)) fun hr r h p => by
  unfold sumD at h
  split at h
  · rename_i xs
    cases r with | cons r1 rr => ?_
    cases rr
    cases r1 with | tup hs q => ?_
    cases eb : intsOf xs with
    | none => rw [eb] at h; cases h
    | some ns => rw [eb] at h; cases h; exact .inr ⟨_, ns, rfl, by rw [← ints_ok q eb]; exact hs.sq, val_of p hr (.int _)⟩
  · split at h
    · rename_i e
      cases r with | cons r1 rr => ?_
      cases rr
      obtain ⟨a, ys, rfl, s, q⟩ := seqL_ok hr r1 e
      cases eb : intsOf ‹List D› with
      | none => rw [eb] at h; cases h
      | some ns => rw [eb] at h; cases h; exact .inl ⟨_, ns, rfl, by rw [← ints_ok q eb]; exact s, val_of p hr (.int _)⟩
    · cases h
  · cases h
/-! ### sorted of ints -/
def insI (x : Int) : List Int → List Int
  | [] => [x]
  | y :: r => if x ≤ y then x :: y :: r else y :: insI x r
def sortI : List Int → List Int
  | [] => []
  | x :: r => insI x (sortI r)
theorem insI_perm (x : Int) : ∀ l : List Int, (insI x l).Perm (x :: l)
  | [] => .refl _
  | y :: r => by
    unfold insI
    split
    · exact .refl _
    · exact ((insI_perm x r).cons y).trans (.swap x y r)
theorem sortI_perm : ∀ l : List Int, (sortI l).Perm l
  | [] => .refl _
  | x :: r => (insI_perm x _).trans ((sortI_perm r).cons x)
theorem insI_sorted (x : Int) : ∀ l : List Int, l.Pairwise (· ≤ ·) → (insI x l).Pairwise (· ≤ ·)
  | [], _ => by simp [insI]
  | y :: r, h => by
    unfold insI
    have h' := List.pairwise_cons.mp h
    split
    · rename_i hx
      refine List.pairwise_cons.mpr ⟨fun z hz => ?_, h⟩
      rcases List.mem_cons.mp hz with e | hz
      · subst e; exact hx
      · exact Int.le_trans hx (h'.1 z hz)
    · rename_i hx
      refine List.pairwise_cons.mpr ⟨fun z hz => ?_, insI_sorted x r h'.2⟩
      rcases List.mem_cons.mp ((insI_perm x r).mem_iff.mp hz) with e | hz
      · subst e; omega
      · exact h'.1 z hz
theorem sortI_sorted : ∀ l : List Int, (sortI l).Pairwise (· ≤ ·)
  | [] => .nil
  | x :: r => insI_sorted x _ (sortI_sorted r)
theorem sorted_eq : ∀ {l m : List Int}, l.Perm m → l.Pairwise (· ≤ ·) → m.Pairwise (· ≤ ·) → l = m
  | [], m, h, _, _ => by rw [h.nil_eq]
  | x :: l, [], h, _, _ => by have := h.length_eq; simp at this
  | x :: l, y :: m, h, hl, hm => by
    have hl' := List.pairwise_cons.mp hl
    have hm' := List.pairwise_cons.mp hm
    have e : x = y := by
      have h1 : y ∈ x :: l := h.mem_iff.mpr List.mem_cons_self
      have h2 : x ∈ y :: m := h.mem_iff.mp List.mem_cons_self
      rcases List.mem_cons.mp h1 with e | h1
      · exact e.symm
      · rcases List.mem_cons.mp h2 with e | h2
        · exact e
        · have := hl'.1 y h1; have := hm'.1 x h2; omega
    subst e
    rw [sorted_eq (List.Perm.cons_inv h) hl'.2 hm'.2]
theorem sortI_of {ns ys : List Int} (h : ys.Perm ns) (hs : ys.Pairwise (· ≤ ·)) : ys = sortI ns := sorted_eq (h.trans (sortI_perm ns).symm) hs (sortI_sorted ns)
/-! ### dicts -/
def keyD : D → Option Key
  | .int i => some (.inl i)
  | .str x => some (.inr x)
  | _ => none
def dK : Key → D
  | .inl i => .int i
  | .inr x => .str x
theorem keyD_ok {v : V} {d : D} {k : Key} (r : RepV K w H v d) (h : keyD d = some k) : v = kV k ∧ d = dK k := by
  cases d with
  | int i => cases r; cases h; exact ⟨rfl, rfl⟩
  | str x => cases r; cases h; exact ⟨rfl, rfl⟩
  | _ => cases h
theorem rep_key (k : Key) : RepV K w H (kV k) (dK k) := by
  cases k with
  | inl i => exact .int i
  | inr x => exact .str x
section
variable {κ : Type} [DecidableEq κ]
def putD (kvs : List (κ × D)) (k : κ) (v : D) : List (κ × D) :=
  if (kvs.any fun kv => decide (kv.1 = k)) = true then kvs.map (fun kv => if kv.1 = k then (kv.1, v) else kv) else kvs ++ [(k, v)]
def getD (kvs : List (κ × D)) (k : κ) : Option D := (kvs.find? fun kv => decide (kv.1 = k)).map (·.2)
def dropD (kvs : List (κ × D)) (k : κ) : List (κ × D) := kvs.filter fun kv => decide (kv.1 ≠ k)
theorem repF_nil : RepF (κ := κ) K w H [] [] := ⟨rfl, .nil⟩
theorem repF_cons {p : κ × V} {q : κ × D} {xs : List (κ × V)} {fs : List (κ × D)} : RepF K w H (p :: xs) (q :: fs) ↔ p.1 = q.1 ∧ RepV K w H p.2 q.2 ∧ RepF K w H xs fs := by
  constructor
  · rintro ⟨e, r⟩
    cases r with | cons r1 r2 => ?_
    have e' := List.cons_eq_cons.mp (show p.1 :: xs.map (·.1) = q.1 :: fs.map (·.1) from e)
    exact ⟨e'.1, r1, e'.2, r2⟩
  · rintro ⟨e, r, f⟩
    exact ⟨by rw [List.map_cons, List.map_cons, e, f.1], .cons r f.2⟩
theorem repF_length {xs : List (κ × V)} {fs : List (κ × D)} (h : RepF K w H xs fs) : xs.length = fs.length := by simpa using congrArg List.length h.1
theorem repF_append : ∀ {xs ys : List (κ × V)} {fs gs : List (κ × D)}, RepF K w H xs fs → RepF K w H ys gs → RepF K w H (xs ++ ys) (fs ++ gs) := fun h h' =>
  ⟨by rw [List.map_append, List.map_append, h.1, h'.1], by rw [List.map_append, List.map_append]; exact h.2.append h'.2⟩
theorem repF_any {xs : List (κ × V)} {fs : List (κ × D)} (k : κ) (h : RepF K w H xs fs) : (xs.any fun kv => decide (kv.1 = k)) = fs.any fun kv => decide (kv.1 = k) := by
  have e1 : (xs.any fun kv => decide (kv.1 = k)) = (xs.map (·.1)).any fun x => decide (x = k) := by rw [List.any_map]; rfl
  have e2 : (fs.any fun kv => decide (kv.1 = k)) = (fs.map (·.1)).any fun x => decide (x = k) := by rw [List.any_map]; rfl
  rw [e1, e2, h.1]
theorem repF_repl {k : κ} {v : V} {d : D} (r : RepV K w H v d) : ∀ {xs : List (κ × V)} {fs : List (κ × D)}, RepF K w H xs fs → RepF K w H (xs.map fun kv => if kv.1 = k then (kv.1, v) else kv) (fs.map fun kv => if kv.1 = k then (kv.1, d) else kv)
  | [], [], _ => repF_nil
  | [], _ :: _, h => by have := repF_length h; simp at this
  | _ :: _, [], h => by have := repF_length h; simp at this
  | p :: xs, q :: fs, h => by
    obtain ⟨e, r1, h1⟩ := repF_cons.mp h
    rw [List.map_cons, List.map_cons]
    refine repF_cons.mpr ⟨?_, ?_, repF_repl r h1⟩
    · rw [e]; split <;> first | rfl | exact e
    · rw [e]; split
      · exact r
      · exact r1
theorem repF_put {xs : List (κ × V)} {fs : List (κ × D)} {k : κ} {v : V} {d : D} (h : RepF K w H xs fs) (r : RepV K w H v d) : RepF K w H (putK xs k v) (putD fs k d) := by
  unfold putK putD
  rw [repF_any k h]
  split
  · exact repF_repl r h
  · exact repF_append h (repF_cons.mpr ⟨rfl, r, repF_nil⟩)
theorem repF_get {k : κ} : ∀ {xs : List (κ × V)} {fs : List (κ × D)}, RepF K w H xs fs → (∀ d, getD fs k = some d → ∃ v, valV xs k = some v ∧ RepV K w H v d) ∧ (getD fs k = none → valV xs k = none)
  | [], [], _ => ⟨fun d h => (by cases h), fun _ => rfl⟩
  | [], _ :: _, h => by have := repF_length h; simp at this
  | _ :: _, [], h => by have := repF_length h; simp at this
  | p :: xs, q :: fs, h => by
    obtain ⟨e, r1, h1⟩ := repF_cons.mp h
    have ih := repF_get (k := k) h1
    by_cases hk : q.1 = k
    · have e1 : getD (q :: fs) k = some q.2 := by simp [getD, hk]
      have e2 : valV (p :: xs) k = some p.2 := valV_pos (e.trans hk)
      rw [e1, e2]
      exact ⟨fun d h => by cases h; exact ⟨_, rfl, r1⟩, fun h => by cases h⟩
    · have e1 : getD (q :: fs) k = getD fs k := by simp [getD, hk]
      have e2 : valV (p :: xs) k = valV xs k := valV_neg (fun z => hk (e.symm.trans z))
      rw [e1, e2]
      exact ih
theorem length_putD (kvs : List (κ × D)) (k : κ) (v : D) : (putD kvs k v).length ≤ kvs.length + 1 := by
  unfold putD
  split
  · simp
  · simp
end
def mergeD (kvs more : List (Key × D)) : List (Key × D) := more.foldl (fun acc kv => putD acc kv.1 kv.2) kvs
theorem repF_merge : ∀ {more : List (Key × V)} {ms : List (Key × D)} {xs : List (Key × V)} {fs : List (Key × D)}, RepF K w H more ms → RepF K w H xs fs → RepF K w H (mergeK xs more) (mergeD fs ms)
  | [], [], _, _, _, h => h
  | [], _ :: _, _, _, h, _ => by have := repF_length h; simp at this
  | _ :: _, [], _, _, h, _ => by have := repF_length h; simp at this
  | p :: more, q :: ms, xs, fs, h, g => by
    obtain ⟨e, r1, h1⟩ := repF_cons.mp h
    show RepF K w H (mergeK (putK xs p.1 p.2) more) (mergeD (putD fs q.1 q.2) ms)
    rw [e]
    exact repF_merge h1 (repF_put g r1)
/-- pairs (key, value) -/
theorem tup_inv {v : V} {ds : List D} (r : RepV K w H v (.tup ds)) : ∃ (a : Addr) (ys : List V), v = .ref a ∧ StT K w H a ys ∧ RepVs K w H ys ds := by
  cases r with | tup hs q => exact ⟨_, _, rfl, hs, q⟩
theorem reps_cons {vs : List V} {d : D} {ds : List D} (r : RepVs K w H vs (d :: ds)) : ∃ (x : V) (xs : List V), vs = x :: xs ∧ RepV K w H x d ∧ RepVs K w H xs ds := by
  cases r with | cons p q => exact ⟨_, _, rfl, p, q⟩
theorem reps_nil {vs : List V} (r : RepVs K w H vs []) : vs = [] := by cases r; rfl
def pairD : D → Option (Key × D)
  | .tup [k, v] => (keyD k).map (·, v)
  | _ => none
def pairsD : List D → Option (List (Key × D))
  | [] => some []
  | d :: r => (pairD d).bind fun kv => (pairsD r).map (kv :: ·)
theorem pairD_ok {v : V} {d : D} {kv : Key × D} (r : RepV K w H v d) (h : pairD d = some kv) : ∃ (a : Addr) (x : V), v = .ref a ∧ SqT K H a [kV kv.1, x] ∧ RepV K w H x kv.2 := by
  unfold pairD at h
  split at h
  · rename_i k0 v0
    cases ek : keyD k0 with
    | none => rw [ek] at h; cases h
    | some k =>
      rw [ek] at h; cases h
      obtain ⟨a, ys, rfl, hs, q⟩ := tup_inv r
      obtain ⟨y1, ys1, rfl, q1, q2⟩ := reps_cons q
      obtain ⟨y2, ys2, rfl, q3, q4⟩ := reps_cons q2
      obtain rfl := reps_nil q4
      obtain ⟨e1, e2⟩ := keyD_ok q1 ek
      exact ⟨a, y2, rfl, e1 ▸ hs.sq, q3⟩
  · cases h
theorem pairsD_ok : ∀ {vs : List V} {ds : List D} {kvs : List (Key × D)}, RepVs K w H vs ds → pairsD ds = some kvs →
    ∃ (ps : List Addr) (xs : List (Key × V)), vs = ps.map V.ref ∧ Paired (fun p kv => SqT K H p [kV kv.1, kv.2]) ps xs ∧ RepF K w H xs kvs
  | _, _, _, .nil, h => by cases h; exact ⟨[], [], rfl, .nil, repF_nil⟩
  | _, _, _, .cons (v := v) (d := d) (ds := ds) r rs, h => by
    have h' : ((pairD d).bind fun kv => (pairsD ds).map (kv :: ·)) = some _ := h
    cases e1 : pairD d with
    | none => rw [e1] at h'; cases h'
    | some kv =>
      cases e2 : pairsD ds with
      | none => rw [e1, e2] at h'; cases h'
      | some kvs0 =>
        rw [e1, e2] at h'; cases h'
        obtain ⟨ps, xs, ev, pp, rf⟩ := pairsD_ok rs e2
        obtain ⟨a, x, rfl, hs, q⟩ := pairD_ok r e1
        exact ⟨a :: ps, (kv.1, x) :: xs, by rw [ev]; rfl, .cons hs pp, repF_cons.mpr ⟨rfl, q, rf⟩⟩
def dictD : GL := fun ds η => match ds with
  | [d] => match seqL d η with
    | some xs => (match pairsD xs with
      | some kvs => some (.obj η.length, η ++ [.dK (mergeD [] kvs)])
      | none => none)
    | none => none
  | _ => none
theorem callD_dict (hc : X.calm = true) : CallR X (.type "dict") (rdL X.K dictD) := call_of (call_dictP hc) fun {xs H Q w η ds z η'} hr r h p => by
  unfold dictD at h
  split at h
  · split at h
    · rename_i e
      split at h
      · rename_i kvs ek
        cases h
        cases r with | cons r1 rr => ?_
        cases rr
        obtain ⟨a, ys, rfl, s, q⟩ := seqL_ok hr r1 e
        obtain ⟨ps, xs, ev, pp, rf⟩ := pairsD_ok q ek
        subst ev
        refine ⟨a, ps, xs, rfl, s, pp, fun b hb => p _ _ _ (Ext.more hb hr) (hr.more hb ⟨_, upd_same, ?_⟩) (.obj (hr.ixO b))⟩
        exact repF_merge (rf.ext (Ext.more hb hr)) repF_nil
      · cases h
    · cases h
  · cases h
def intKeys : List Key → Option (List Int)
  | [] => some []
  | .inl i :: r => (intKeys r).map (i :: ·)
  | _ => none
theorem intKeys_ok : ∀ {ks : List Key} {ns : List Int}, intKeys ks = some ns → ks = ns.map Sum.inl
  | [], _, h => by cases h; rfl
  | .inl i :: r, _, h => by
    have h' : (intKeys r).map (i :: ·) = some _ := h
    cases e : intKeys r with
    | none => rw [e] at h'; cases h'
    | some ms => rw [e] at h'; cases h'; rw [intKeys_ok e]; rfl
  | .inr _ :: _, _, h => by cases h
/-- sorted of a list of ints; of a dict whose keys are ints -/
def sortedD : GL := fun ds η => match ds with
  | [d] => match seqL d η with
    | some xs => (intsOf xs).map fun ns => (.lst ((sortI ns).map D.int), η)
    | none => match d with
      | .obj i => (match η[i]? with
        | some (.dK kvs) => (match intKeys (kvs.map (·.1)) with
          | some ns => if ns.length < 64 then some (.lst ((sortI ns).map D.int), η) else none
          | none => none)
        | _ => none)
      | _ => none
  | _ => none
theorem callD_sorted (hc : X.calm = true) : CallR X (.builtin "sorted") (rdL X.K sortedD) := call_of (CallR.or cr_sortedI (call_sortedDI hc)) fun hr r h p => by
  unfold sortedD at h
  split at h
  · cases r with | cons r1 rr => ?_
    cases rr
    split at h
    · rename_i e
      obtain ⟨a, ys, rfl, s, q⟩ := seqL_ok hr r1 e
      cases eb : intsOf ‹List D› with
      | none => rw [eb] at h; cases h
      | some ns =>
        rw [eb] at h; cases h
        refine .inl ⟨_, ns, rfl, by rw [← ints_ok q eb]; exact s, fun ns' b hp hs hb => ?_⟩
        rw [sortI_of hp hs]
        exact lst_of p hr (ints_rep _) hb
    · split at h
      · rename_i i _
        split at h
        · rename_i kvs eo
          split at h
          · rename_i ns en
            split at h
            · rename_i hl
              cases h
              cases r1 with | obj ha => ?_
              obtain ⟨xs, eH, rf⟩ := hr.at_ _ _ _ ha eo
              refine .inr ⟨_, xs, ns, rfl, .inl eH, by rw [rf.1]; exact intKeys_ok en, hl, fun ys b hp hs hb => ?_⟩
              rw [sortI_of hp hs]
              exact lst_of p hr (ints_rep _) hb
            · cases h
          · cases h
        · cases h
      · cases h
  · cases h
end
end Dn
/-! Dn part 10: what is never reached; things that change: o[i] = v, methods. -/
namespace Dn
open PySem PySem.Spec PyProof.Rows L2
section
variable {X : Cx} {W : WX} {K : PySem.W.Frag} {w w1 w' : Wd} {σ : L2.St} {H H1 H' : Hp} {ρ : Env} {η η1 : Store} {fa fb fc f : FE} {a b c e : Expr} {es : List Expr} {pos p : Pos} {fA : FA}
/-! ### nothing is said of it -/
def noE : FE := fun _ _ => .no
def noT : FT := fun _ _ => .no
def noS : FS := fun _ _ => .no
def noF : FF := fun _ _ => .no
theorem de_no : DE X W e noE := ⟨fun pins s σ H Q I ⟨w, ρ, η, rel, p⟩ => p.elim⟩
theorem dt_no : DT X W e noT := ⟨fun pins s σ H Q I ⟨w, ρ, η, rel, p⟩ => p.elim⟩
theorem ds_no {st : Stmt} : DS X W st noS := ⟨fun pins s σ H D I ⟨w, ρ, η, rel, p⟩ => p.elim⟩
theorem dss_no {ss : List Stmt} : DSs X W ss noS := ⟨fun pins s σ H D I ⟨w, ρ, η, rel, p⟩ => p.elim⟩
theorem fn_no {P : Program} {wl : World} {mg : Str → Option Value} {base : Heap} {CX : CXT} {k n : Nat} {f : Addr} {fd : FuncData} {ps : List Str} : FnOk P wl K mg base CX k f fd ps (spD K n noF) :=
  ⟨fun vs H Q E ⟨w, η, ds, hr, rv, hl, p⟩ => p.elim, fun A outer s H args us vs Q E hr he hb hv ⟨w, η, ds, h1, rv, hl, p⟩ => p.elim⟩
/-! ### o[i] = v -/
abbrev GSet := D → D → D → Store → Option Store
def rdSet (K : PySem.W.Frag) (g : GSet) : TSet := fun o i v H Q => ∃ w η d1 d2 d3, HeapRel K w H η ∧ RepV K w H o d1 ∧ RepV K w H i d2 ∧ RepV K w H v d3 ∧
  match g d1 d2 d3 η with
  | some η' => ∀ w' H', Ext w H w' H' → HeapRel K w' H' η' → Q H'
  | none => False
def sSetIx (g : GSet) (f fo fi : FE) : FS := fun ρ η => (f ρ η).bindS ρ fun v η => (fo ρ η).bindS ρ fun o η => (fi ρ η).bindS ρ fun i η => match g o i v η with
  | some η => .nx ρ η
  | none => .no
theorem ds_setIx {o i : Expr} {fo fi : FE} {g : GSet} {p2 : Pos} (hs : PSet X (rdSet X.K g)) (he : DE X W e f) (ho : DE X W o fo) (hi : DE X W i fi)
    (ha : ∀ v, assign (.Subscript o i p2) X.env v = (do
      let ov ← holding [v] (eval o X.env)
      let iv ← holding [v, ov] (eval i X.env)
      standAt p2
      holding [v, ov, iv] (setItem ov iv v)
      release [v, ov, iv] []) := by intro _; rfl)
    (h1 : swapsWithSole [.Subscript o i p2] e pos.line X.env = pure false := by rfl) (hw : swappedStores [.Subscript o i p2] e X.env = pure none := by rfl)
    (h2 : (assignEach [.Subscript o i p2] X.env).map (·.2) = [assign (.Subscript o i p2) X.env] := by rfl) : DS X W (.Assign [.Subscript o i p2] e pos) (sSetIx g f fo fi) :=
  PS.imp (ps_asg he (pg_sub ho hi hs ha) h1 hw h2) fun E σ H ⟨w, ρ, η, rel, p⟩ => by
    refine (rdE_thenS rel p).imp fun v H1 ⟨w1, d, η1, e1, rel1, rv, p1⟩ => ?_
    refine (rdE_thenS rel1 p1).imp fun u H2 ⟨w2, d2, η2, e2, rel2, rv2, p2⟩ => ?_
    refine (rdE_thenS rel2 p2).imp fun x H3 ⟨w3, d3, η3, e3, rel3, rv3, p3⟩ => ?_
    refine ⟨w3, η3, d2, d3, d, rel3.heap, rv2.ext e3, rv3, (rv.ext e2).ext e3, ?_⟩
    split at p3
    · rename_i η4 eg
      exact fun w' H' e' hr' => p3 σ w' H' e' ⟨rel3.env.ext e', hr'⟩
    · exact p3.elim
/-- a list's item; a dict's -/
def setD : GSet := fun o i v η => match o with
  | .obj k => (match η[k]? with
    | some (.lst xs) => (match i with
      | .int j => (match ixN xs.length j with
        | some n => some (η.set k (.lst (xs.set n v)))
        | none => none)
      | _ => none)
    | some (.dK kvs) => (match keyD i with
      | some q => if kvs.length < sizeLine then some (η.set k (.dK (putD kvs q v))) else none
      | none => none)
    | _ => none)
  | _ => none
theorem PSet.or {t t' : TSet} (h : PSet X t) (h' : PSet X t') : PSet X (fun o i v H Q => t o i v H Q ∨ t' o i v H Q) :=
  fun pins s σ H o i v ov iv u Q I r1 r2 r3 q => q.elim (h pins s σ H o i v ov iv u Q I r1 r2 r3) (h' pins s σ H o i v ov iv u Q I r1 r2 r3)
theorem setD_ok (hu : X.A.units + 64 < cLine) : PSet X (rdSet X.K setD) := by
  intro pins s σ H o i v ov iv u Q I r1 r2 r3 ⟨w, η, d1, d2, d3, hr, q1, q2, q3, p⟩
  have hu' : X.A.units + 1 < cLine := by omega
  refine (PSet.or set_list (set_dict hu')) pins s σ H o i v ov iv u Q I r1 r2 r3 ?_
  cases q1 with
  | @obj k a ha =>
    dsimp only [setD] at p
    cases eo : η[k]? with
    | none => rw [eo] at p; exact p.elim
    | some ob =>
      rw [eo] at p
      cases ob with
      | lst xs =>
        obtain ⟨ys, eH, r⟩ := hr.at_ _ _ _ ha eo
        cases q2 with
        | int j =>
          dsimp only at p
          cases en : ixN xs.length j with
          | none => rw [en] at p; exact p.elim
          | some n =>
            rw [en] at p
            refine .inl ⟨a, ys, j, n, rfl, rfl, eH, by rw [r.length]; exact en, ?_⟩
            exact p w _ (Ext.write ha (nf_lst eH) hr) (hr.write ha ⟨_, upd_same, (r.set q3 n).mv (Mv.write ha)⟩)
        | _ => exact p.elim
      | dK kvs =>
        obtain ⟨ys, eH, r⟩ := hr.at_ _ _ _ ha eo
        dsimp only at p
        cases ek : keyD d2 with
        | none => rw [ek] at p; exact p.elim
        | some q =>
          rw [ek] at p
          dsimp only at p
          split at p
          case h_2 => exact p.elim
          rename_i hm
          split at hm
          case isFalse => cases hm
          rename_i hl
          cases hm
          obtain ⟨e1, _⟩ := keyD_ok q2 ek
          subst e1
          refine .inr ⟨a, _, rfl, DPut.k eH (by rw [repF_length r]; exact hl), ?_⟩
          exact p w _ (Ext.write ha (nf_dK eH) hr) (hr.write ha ⟨_, upd_same, (repF_put r q3).mv (Mv.write ha)⟩)
      | _ => exact p.elim
  | _ => exact p.elim

/-! ### methods of built-in types -/
def tyM (T : String) (d : D) (η : Store) : Bool := match d with
  | .str _ => decide (T = "str")
  | .lst _ => decide (T = "list")
  | .scr _ => decide (T = "list")
  | .obj k => (match η[k]? with
    | some (.lst _) => decide (T = "list")
    | some (.dK _) => decide (T = "dict")
    | some (.dT _) => decide (T = "dict")
    | _ => false)
  | _ => false
theorem tyM_ok {T : String} {v : V} {d : D} (hr : HeapRel K w H η) (rv : RepV K w H v d) (h : tyM T d η = true) : tyV K T v H := by
  cases rv with
  | str x => exact (of_decide_eq_true h : T = "str")
  | lst s r => exact .inl ⟨(of_decide_eq_true h : T = "list"), _, s.sq⟩
  | scr s r => exact .inl ⟨(of_decide_eq_true h : T = "list"), _, s.sq⟩
  | @obj k a ha =>
    dsimp only [tyM] at h
    split at h
    · rename_i xs eo
      obtain ⟨ys, e, r⟩ := hr.at_ _ _ _ ha eo
      exact .inl ⟨(of_decide_eq_true h : T = "list"), _, SqL.of e⟩
    · rename_i kvs eo
      obtain ⟨ys, e, r⟩ := hr.at_ _ _ _ ha eo
      exact .inr (.inr (.inl ⟨(of_decide_eq_true h : T = "dict"), .inl ⟨_, e⟩⟩))
    · rename_i kvs eo
      obtain ⟨ys, e, r⟩ := hr.at_ _ _ _ ha eo
      exact .inr (.inr (.inl ⟨(of_decide_eq_true h : T = "dict"), .inr ⟨_, e⟩⟩))
    · cases h
  | _ => cases h
def eMt (T : String) (g : D → GL) (fo : FE) (fA : FA) : FE := fun ρ η => (fo ρ η).bind fun x η => if tyM T x η = true then (fA ρ η).bind fun xs η => liftO (g x xs η) else .no
def eMt0 (T : String) (g : D → GL) (fo : FE) : FE := fun ρ η => (fo ρ η).bind fun x η => if tyM T x η = true then liftO (g x [] η) else .no
variable {o : Expr} {fo : FE} {name : Str} {apos cpos : Pos} {T id : String} {g : D → GL}
theorem de_mt0 (pa : PlainAttrs T) (slot : Slot T name id) (hty : typeOf (.builtin id) = pure (.type "method_descriptor")) (hm : MtR X id (rdM X.K g)) (ho : DE X W o fo)
    (hbase : attributeBase o name X.env (eval o X.env) = eval o X.env := by rfl) (hline : (apos.endLine == cpos.line) = true := by rfl) : DE X W (.Call (.Attribute o name apos) [] [] cpos) (eMt0 T g fo) :=
  PE.imp (pe_bm0 pa slot hty hm ho hbase hline) fun σ H Q ⟨w, ρ, η, rel, p⟩ => by
    refine (rdE_then rel p).imp fun v H1 ⟨w1, d, η1, e, rel1, rv, p1⟩ => ?_
    split at p1
    · rename_i ht
      exact ⟨tyM_ok rel1.heap rv ht, w1, η1, d, [], rel1.heap, rv, .nil, p1.lift⟩
    · exact p1.elim
theorem de_mt (pa : PlainAttrs T) (slot : Slot T name id) (hty : typeOf (.builtin id) = pure (.type "method_descriptor")) (hm : MtR X id (rdM X.K g)) (ho : DE X W o fo) (ha : DA X W (e :: es) fA)
    (hbase : attributeBase o name X.env (eval o X.env) = eval o X.env := by rfl)
    (hfew : ((backTo cpos (starEach (e :: es) X.env)).all (fun x => !x.1) && (backToKw cpos (keywordEach [] X.env)).all (fun x => x.1.isSome)
      && decide ((e :: es).length + ([] : List Keyword).length + (if ([] : List Keyword).isEmpty then 0 else 1) < 30)) = true := by rfl)
    (hline : (apos.endLine == cpos.line) = true := by rfl) (hs : starEach (e :: es) X.env = (false, eval e X.env) :: starEach es X.env := by rfl) (hplain : (backTo cpos (starEach es X.env)).any (·.1) = false := by rfl) :
    DE X W (.Call (.Attribute o name apos) (e :: es) [] cpos) (eMt T g fo fA) :=
  PE.imp (pe_bm pa slot hty hm ho ha hbase hfew hline hs hplain) fun σ H Q ⟨w, ρ, η, rel, p⟩ => by
    refine (rdE_then rel p).imp fun v H1 ⟨w1, d, η1, e, rel1, rv, p1⟩ => ?_
    split at p1
    · rename_i ht
      refine ⟨tyM_ok rel1.heap rv ht, ?_⟩
      obtain ⟨w2, ρ2, η2, rel2, q⟩ := rdA_then rel1 p1
      exact ⟨w2, ρ2, η2, rel2, q.imp fun vs H2 ⟨w3, ds, η3, e3, rel3, rvs, p3⟩ => ⟨w3, η3, d, ds, rel3.heap, rv.ext e3, rvs, p3.lift⟩⟩
    · exact p1.elim
theorem mt_of {id : String} {r : V → List V → Hp → VK → Prop} {g : D → GL} (ho : MtR X id r)
    (m : ∀ {x xs H} {Q : VK} {w η d ds z η'}, HeapRel X.K w H η → RepV X.K w H x d → RepVs X.K w H xs ds → g d ds η = some (z, η') → (∀ v w' H', Ext w H w' H' → HeapRel X.K w' H' η' → RepV X.K w' H' v z → Q v H') → r x xs H Q) : MtR X id (rdM X.K g) :=
  fun pins s σ H x xs v us Q I r1 r2 ⟨w, η, d, ds, hr, q1, q2, p⟩ => by
    refine ho pins s σ H x xs v us Q I r1 r2 ?_
    cases e : g d ds η with
    | none => rw [e] at p; exact p.elim
    | some zη =>
      obtain ⟨z, η'⟩ := zη
      rw [e] at p
      exact m hr q1 q2 e p
/-- the list at a thing -/
def objL (d : D) (η : Store) : Option (Nat × List D) := match d with
  | .obj k => (match η[k]? with
    | some (.lst xs) => some (k, xs)
    | _ => none)
  | _ => none
theorem objL_ok {v : V} {d : D} {k : Nat} {ds : List D} (hr : HeapRel K w H η) (rv : RepV K w H v d) (h : objL d η = some (k, ds)) : ∃ a xs, v = .ref a ∧ w.io[k]? = some a ∧ H a = some (.lst xs) ∧ RepVs K w H xs ds := by
  cases rv with
  | @obj k a ha =>
    dsimp only [objL] at h
    split at h
    · rename_i ys eo
      cases h
      obtain ⟨xs, e, r⟩ := hr.at_ _ _ _ ha eo
      exact ⟨a, xs, rfl, ha, e, r⟩
    · cases h
  | _ => cases h
theorem wr_of {Q : VK} {z : D} {v : V} {a : Addr} {k : Nat} {xs : List V} {ds : List D} (p : ∀ v w' H', Ext w H w' H' → HeapRel K w' H' (η.set k (.lst ds)) → RepV K w' H' v z → Q v H') (hr : HeapRel K w H η) (ha : w.io[k]? = some a)
    {ys0 : List V} (eH : H a = some (.lst ys0)) (r : RepVs K w H xs ds) (rv : RepV K w H v z) : Q v (upd H a (.lst xs)) :=
  p v w _ (Ext.write ha (nf_lst eH) hr) (hr.write ha ⟨_, upd_same, r.mv (Mv.write ha)⟩) (rv.mv (Mv.write ha))
def appD : D → GL := fun d ds η => match ds with
  | [y] => (match objL d η with
    | some (k, xs) => if xs.length < sizeLine then some (.non, η.set k (.lst (xs ++ [y]))) else none
    | none => none)
  | _ => none
theorem mtD_append : MtR X "list.append" (rdM X.K appD) := mt_of (id := "list.append") mt_append fun hr q r h p => by
  unfold appD at h
  split at h
  · split at h
    · rename_i k xs eo
      split at h
      · rename_i hl
        cases h
        obtain ⟨a, ys, rfl, ha, eH, ry⟩ := objL_ok hr q eo
        obtain ⟨x1, xs1, rfl, q1, q2⟩ := reps_cons r
        obtain rfl := reps_nil q2
        exact ⟨a, ys, x1, rfl, rfl, eH, by rw [ry.length]; exact hl, wr_of p hr ha eH (ry.append (.one q1)) .non⟩
      · cases h
    · cases h
  · cases h
def extD : D → GL := fun d ds η => match ds with
  | [y] => (match objL d η, lstOf y η with
    | some (k, xs), some ys => if xs.length + ys.length ≤ sizeLine then some (.non, η.set k (.lst (xs ++ ys))) else none
    | _, _ => none)
  | _ => none
theorem mtD_extend : MtR X "list.extend" (rdM X.K extD) := mt_of (id := "list.extend") mt_extend fun hr q r h p => by
  unfold extD at h
  split at h
  · split at h
    · rename_i k xs ys eo el
      split at h
      · rename_i hl
        cases h
        obtain ⟨a, zs, rfl, ha, eH, rz⟩ := objL_ok hr q eo
        obtain ⟨x1, xs1, rfl, q1, q2⟩ := reps_cons r
        obtain rfl := reps_nil q2
        obtain ⟨b, us, rfl, eB, ru⟩ := lstOf_ok hr q1 el
        exact ⟨a, b, zs, us, rfl, rfl, eH, eB, by rw [rz.length, ru.length]; exact hl, wr_of p hr ha eH (rz.append ru) .non⟩
      · cases h
    · cases h
  · cases h
theorem RepVs.dropLast {xs : List V} {ds : List D} (r : RepVs K w H xs ds) : RepVs K w H xs.dropLast ds.dropLast := by
  rw [List.dropLast_eq_take, List.dropLast_eq_take, r.length]; exact r.take _
theorem RepVs.eraseIdx : ∀ {xs : List V} {ds : List D} (i : Nat), RepVs K w H xs ds → RepVs K w H (xs.eraseIdx i) (ds.eraseIdx i)
  | _, _, _, .nil => .nil
  | _, _, 0, .cons _ t => t
  | _, _, i + 1, .cons q t => .cons q (RepVs.eraseIdx i t)
def popD : D → GL := fun d ds η => match objL d η with
  | some (k, xs) => (match ds with
    | [] => (match xs[xs.length - 1]? with
      | some y => some (y, η.set k (.lst xs.dropLast))
      | none => none)
    | [.int i] => if -(2 ^ 63) ≤ i ∧ i < 2 ^ 63 then (match seqIndex? i xs.length with
      | some n => (match xs[n]? with
        | some y => some (y, η.set k (.lst (xs.eraseIdx n)))
        | none => none)
      | none => none) else none
    | _ => none)
  | none => none
theorem mtD_pop : MtR X "list.pop" (rdM X.K popD) := mt_of (id := "list.pop") (MtR.or (id := "list.pop") mt_pop mt_popAt) fun hr q r h p => by
  unfold popD at h
  split at h
  · rename_i k xs eo
    obtain ⟨a, zs, rfl, ha, eH, rz⟩ := objL_ok hr q eo
    split at h
    · split at h
      · rename_i y ey
        cases h
        obtain rfl := reps_nil r
        obtain ⟨u, eu, ru⟩ := rz.get ey
        exact .inl ⟨a, zs, u, rfl, rfl, eH, by rw [rz.length]; exact eu, wr_of p hr ha eH rz.dropLast ru⟩
      · cases h
    · split at h
      · rename_i hb
        split at h
        · rename_i n en
          split at h
          · rename_i y ey
            cases h
            obtain ⟨x1, xs1, rfl, q1, q2⟩ := reps_cons r
            obtain rfl := reps_nil q2
            cases q1
            obtain ⟨u, eu, ru⟩ := rz.get ey
            exact .inr ⟨a, zs, _, n, u, rfl, rfl, eH, hb.1, hb.2, by rw [rz.length]; exact en, eu, wr_of p hr ha eH (rz.eraseIdx n) ru⟩
          · cases h
        · cases h
      · cases h
    · cases h
  · cases h
end
end Dn
/-! Dn part 11: the text's defs, by name. -/
namespace Dn
open PySem PySem.Spec PyProof.Rows L2
@[irreducible] def fuel : Nat := 2 ^ 1000000
theorem fuel_big {n : Nat} (h : n ≤ 1000000) : 2 ^ n ≤ fuel := by unfold fuel; exact Nat.pow_le_pow_right (by decide) h
theorem fuel_lt {m n : Nat} (h : m < 2 ^ n) (hn : n ≤ 1000000) : m < fuel := Nat.lt_of_lt_of_le h (fuel_big hn)
/-- the def x of the module: n parameters, what it does -/
structure FOk (P : Program) (w : World) (K : PySem.W.Frag) (mg : Str → Option Value) (base : Heap) (k : Nat) (x : Str) (n : Nat) (F : FF) : Prop where
  g : mg x = some (.ref (He.ga K x))
  kp : PySem.W.keepIn K (.ref (He.ga K x)) = true
  ok : ∃ (fd : FuncData) (ps : List Str), FnOk P w K mg base (L2N.CX P w) k (He.ga K x) fd ps (spD K n F) ∧ Binds K fd ps []
section
variable {P : Program} {w : World} {K : PySem.W.Frag} {mg : Str → Option Value} {base : Heap} {j k n : Nat} {x : Str} {F : FF}
theorem FOk.mono (h : FOk P w K mg base j x n F) (l : j ≤ k) : FOk P w K mg base k x n F :=
  ⟨h.g, h.kp, let ⟨fd, ps, a, b⟩ := h.ok; ⟨fd, ps, a.mono l, b⟩⟩
theorem FOk.trim (h : FOk P w K mg base k x n F) : FOk P w K mg base k x n (trimF F) :=
  ⟨h.g, h.kp, let ⟨fd, ps, a, b⟩ := h.ok; ⟨fd, ps, fn_trim a, b⟩⟩
/-- a def as the top left it -/
structure Fn1 (K : PySem.W.Frag) (mg : Str → Option Value) (x : Str) (st : Stmt) : Prop where
  g : mg x = some (.ref (He.ga K x))
  f : ∃ fd, FunD K x x (defArgs st) (defBody st) (defScope st) [] [] (He.ga K x) fd
theorem Fn1.ok {N ps : List Str} {b : FS} {st : Stmt} (h : Fn1 K mg x st) (S : FnScope N ps (defScope st)) (hn : ps.length = n)
    (hb : ∀ (cdv : Value) (A : Around) (outer : List PySem.Env) (s : Shared) (H : Hp) (E : XK) (f : Addr), Room k (A.deeper (envOfC x (defScope st) s.heap.objs.size f cdv)) →
      L2N.Takes (cxOf (L2N.CX P w) P w K mg base N x (defScope st) f cdv A outer s H E) (fun c d _ H => E c d H) →
      PassesOwn (model P w) (A.deeper (envOfC x (defScope st) s.heap.objs.size f cdv)) (envOfC x (defScope st) s.heap.objs.size f cdv) (cxOf (L2N.CX P w) P w K mg base N x (defScope st) f cdv A outer s H E).xe →
      DSs (cxOf (L2N.CX P w) P w K mg base N x (defScope st) f cdv A outer s H E) (fun c d _ H => E c d H) (defBody st) b)
    (bn : ∀ (kV doc pm : Value) (an : Option Addr) (cdv ct : Value) (us : List Value), us.length = ps.length → bindArgs (PySem.W.fnOf x x (defArgs st) (defBody st) (defScope st) .none kV doc pm an cdv ct) ⟨us, []⟩ = pure (ps.zip us)) :
    FOk P w K mg base (k + 1) x n (runF N.length b) := by
  obtain ⟨fd, F⟩ := h.f
  exact ⟨h.g, F.kp, fd, ps, fn_ok F S hn fun cdv A outer s H E hr => hb cdv A outer s H E _ hr (L2N.takes_of rfl rfl rfl rfl) (passes_of rfl), F.bindsN bn⟩
end
section
variable {X : Cx} {W : WX} {e : Expr} {es : List Expr} {pos p : Pos} {fA : FA}
theorem de_callF {x : Str} {n k : Nat} {F : FF} (c : FOk X.prog X.w X.K X.mg X.base k x n F) (tk : L2N.Takes X W) (hr : Room k X.A) (ha : DA X W (e :: es) fA) (hg : Gl X x := by rfl)
    (hdb : (x == ("__debug__" : Str)) = false := by decide) (he : starEach (e :: es) X.env = (false, eval e X.env) :: starEach es X.env := by rfl) (hpl : (backTo pos (starEach es X.env)).any (·.1) = false := by rfl) :
    DE X W (.Call (.Name x p) (e :: es) [] pos) (eCall n F fA) := by
  obtain ⟨fd, ps, a, b⟩ := c.ok
  exact de_call tk hr a c.g c.kp b ha hg hdb he hpl
theorem pe_callS0 {k : Nat} {f : Addr} {fd : FuncData} {ps : List Str} {sp : Sp} {CX : CXT} {E : L2.St → XK} {x : Str} (F : FnOk X.prog X.w X.K X.mg X.base CX k f fd ps sp) (hr : Room k X.A) (hg : Gl X x) (hm : X.mg x = some (.ref f)) (hk : PySem.W.keepIn X.K (.ref f) = true) (hb : Binds X.K fd ps []) (hx : ∀ σ, PassesAt CX X σ (E σ))
    (hdb : (x == ("__debug__" : Str)) = false := by decide) : PE X (.Call (.Name x p) [] [] pos) (fun σ H Q => sp [] H Q (E σ)) := by
  refine ⟨fun pins s σ H Q I h => ?_⟩
  refine wpAny_Call_Name_kw (ld_glob I hg hm ?_ hdb)
  exact PySem.W.callWith_K0 I.kIn hk (run_fnS F hr hb (hx σ) I .nil h)
theorem de_callF0 {x : Str} {k : Nat} {F : FF} (c : FOk X.prog X.w X.K X.mg X.base k x 0 F) (tk : L2N.Takes X W) (hr : Room k X.A) (hg : Gl X x := by rfl)
    (hdb : (x == ("__debug__" : Str)) = false := by decide) : DE X W (.Call (.Name x p) [] [] pos) (eCall 0 F aNil) := by
  obtain ⟨fd, ps, a, b⟩ := c.ok
  refine PE.imp (pe_callS0 a hr hg c.g c.kp b (fun σ => L2N.passAt tk σ) hdb) fun σ H Q ⟨w, ρ, η, rel, p⟩ => ?_
  exact ⟨w, η, [], rel.heap, .nil, rfl, p⟩
end
/-- a def's place at the top -/
def dfn (x : Str) (st : Stmt) : He.DefD := ⟨(x, none), x, x, defArgs st, defBody st, defScope st, [], []⟩
theorem fn1_of {K : PySem.W.Frag} {h : Heap} {mg : Str → Option Value} (X : K.In h) (G : h.Ns mainGlobals mg) {fa : List He.Fa} {fn : List He.DefD} (c : He.SaysD fa fn K) {x : Str} {st : Stmt} (i j : Nat) (hi : fa[i]? = some (.glo x)) (hj : fn[j]? = some (dfn x st)) : Fn1 K mg x st := by
  obtain ⟨fd, F⟩ := c.def_ j hj
  exact ⟨He.glo_ok X G (c.fact i hi), fd, F⟩
end Dn
/-! Dn part 12: more calls. -/
namespace Dn
open PySem PySem.Spec PyProof.Rows L2
section
variable {X : Cx} {W : WX} {K : PySem.W.Frag} {w w1 w' : Wd} {H H1 H' : Hp} {η η1 : Store}
def strD : GL := fun ds η => match ds with
  | [.str x] => some (.str x, η)
  | [.int i] => if i.natAbs.log2 < 1920 then some (.str (toString i), η) else none
  | _ => none
theorem callD_str : CallR X (.type "str") (rdL X.K strD) := call_of (CallR.or SkE.call_str_str call_str_int) fun hr r h p => by
  unfold strD at h
  split at h
  · cases h
    cases r with | cons r1 rr => ?_
    cases rr
    cases r1
    exact .inl ⟨_, rfl, val_of p hr (.str _)⟩
  · split at h
    · rename_i hl
      cases h
      cases r with | cons r1 rr => ?_
      cases rr
      cases r1
      exact .inr ⟨_, rfl, hl, val_of p hr (.str _)⟩
    · cases h
  · cases h
end
end Dn
/-! Dn part 13: the end; what a reading comes to, by wishes. -/
namespace Dn
open PySem PySem.Spec PyProof.Rows L2
/-! ### the end -/
theorem FnOk.no_exc {P : Program} {w : World} {K : PySem.W.Frag} {mg : Str → Option Value} {base : Heap} {k : Nat} {f : Addr} {fd : FuncData} {ps : List Str} {sp : Sp} (F : FnOk P w K mg base (L2N.CX P w) k f fd ps sp) :
    FnOk P w K mg base L2.CX0 k f fd ps (fun vs H Q _ => sp vs H Q L2.E0) :=
  ⟨fun vs H Q _ h => F.len vs H Q _ h, fun A outer s H args us vs Q E hr he hb hv h => codeAny_mono (F.run A outer s H args us vs Q L2.E0 hr he hb hv h) fun r s' q => by
    cases r with
    | ok u => cases u <;> exact q
    | error e => obtain ⟨_, _, _, _, _, _, _, _, _, _, _, _, z⟩ := q; exact z⟩
theorem law_spT {K : PySem.W.Frag} {n : Nat} {F : FF} (h : ∀ ns : List Int, ns.length ≤ n → ∃ η', F [.scr (ns.map D.int)] [] = .ok (.bl true) η') (H : Hp) (a : Addr) (ns : List Int) (hl : ns.length ≤ n) (hT : LamX.Tabs (lamT K) H) (hS : SqL K H a (ns.map V.int)) :
    spD K 1 F [.ref a] H (fun v _ => v = .bl true) L2.E0 := by
  obtain ⟨η', e⟩ := h ns hl
  refine ⟨⟨[], []⟩, [], [.scr (ns.map D.int)], ⟨rfl, List.nodup_nil, fun i b o hb => by simp at hb, (fun b hb => by cases hb), hT⟩, .cons (.scr (xs := ns.map V.int) ?_ ?_) .nil, rfl, ?_⟩
  · rcases hS with hS | hS
    · exact .inl ⟨hS, by simp, by simp⟩
    · exact .inr hS
  · exact ints_rep ns
  · rw [e]
    intro v w' H' _ _ r
    cases r; rfl

/-! ### wishes -/
def wpR {α : Type} (r : R α) (Q : α → Store → Prop) (E : Ex → Store → Prop) : Prop := match r with
  | .ok a η => Q a η
  | .exc x η => E x η
  | .no => False
structure Po where
  nx : Env → Store → Prop
  rt : D → Store → Prop
  bk : Env → Store → Prop
  ct : Env → Store → Prop
  ex : Ex → Env → Store → Prop
def wpS (r : RS) (P : Po) : Prop := match r with
  | .nx ρ η => P.nx ρ η
  | .ret d η => P.rt d η
  | .brk ρ η => P.bk ρ η
  | .cnt ρ η => P.ct ρ η
  | .exc x ρ η => P.ex x ρ η
  | .no => False
def wpO {α : Type} (o : Option α) (Q : α → Prop) : Prop := match o with
  | some a => Q a
  | none => False
@[simp] theorem wpO_some {α : Type} {a : α} {Q : α → Prop} : wpO (some a) Q ↔ Q a := Iff.rfl
@[simp] theorem wpO_none {α : Type} {Q : α → Prop} : wpO (none : Option α) Q ↔ False := Iff.rfl
section
variable {α β : Type} {r : R α} {k : α → Store → R β} {Q : α → Store → Prop} {Q2 : β → Store → Prop} {QD : D → Store → Prop} {QB : Bool → Store → Prop} {QL : List D → Store → Prop} {E : Ex → Store → Prop} {P : Po} {a : α} {η : Store} {ρ : Env} {x : Ex} {fa fb fc f : FE} {s t : FT} {fA : FA}
@[simp] theorem wpR_ok : wpR (.ok a η) Q E ↔ Q a η := Iff.rfl
@[simp] theorem wpR_exc : wpR (.exc x η : R α) Q E ↔ E x η := Iff.rfl
@[simp] theorem wpR_no : wpR (.no : R α) Q E ↔ False := Iff.rfl
theorem wpR_bind : wpR (r.bind k) Q2 E ↔ wpR r (fun a η => wpR (k a η) Q2 E) E := by cases r <;> exact Iff.rfl
theorem wpS_bindS {kS : α → Store → RS} : wpS (r.bindS ρ kS) P ↔ wpR r (fun a η => wpS (kS a η) P) (fun x η => P.ex x ρ η) := by cases r <;> exact Iff.rfl
theorem wpR_lift {o : Option (α × Store)} : wpR (liftO o) Q E ↔ wpO o fun p => Q p.1 p.2 := by cases o <;> exact Iff.rfl
theorem wpR_imp {Q' : α → Store → Prop} {E' : Ex → Store → Prop} (h : wpR r Q E) (m : ∀ a η, Q a η → Q' a η) (m2 : ∀ x η, E x η → E' x η) : wpR r Q' E' := by
  cases r with
  | ok a η => exact m _ _ h
  | exc x η => exact m2 _ _ h
  | no => exact h
theorem wpS_imp {P' : Po} {r : RS} (h : wpS r P) (m1 : ∀ ρ η, P.nx ρ η → P'.nx ρ η) (m2 : ∀ ρ η, P.rt ρ η → P'.rt ρ η) (m3 : ∀ ρ η, P.bk ρ η → P'.bk ρ η) (m4 : ∀ ρ η, P.ct ρ η → P'.ct ρ η) (m5 : ∀ x ρ η, P.ex x ρ η → P'.ex x ρ η) : wpS r P' := by
  cases r with
  | nx ρ η => exact m1 _ _ h
  | ret ρ η => exact m2 _ _ h
  | brk ρ η => exact m3 _ _ h
  | cnt ρ η => exact m4 _ _ h
  | exc x ρ η => exact m5 _ _ _ h
  | no => exact h
theorem wpR_congr {r : R α} {Q Q' : α → Store → Prop} (h : ∀ a η, Q a η ↔ Q' a η) : wpR r Q E ↔ wpR r Q' E := by
  have e : Q = Q' := funext fun a => funext fun η => propext (h a η)
  rw [e]
/-- an answer that is known -/
theorem wpR_of {r : R α} (h : r = .ok a η) (q : Q a η) : wpR r Q E := by rw [h]; exact q
theorem ok_of_wpR {r : R α} (h : wpR r Q (fun _ _ => False)) : ∃ a η, r = .ok a η ∧ Q a η := by
  cases r with
  | ok a η => exact ⟨a, η, rfl, h⟩
  | exc x η => exact h.elim
  | no => exact h.elim
/-! expressions -/
@[simp] theorem w_gv {i : Nat} : wpR (gv i ρ η) QD E ↔ wpO (ρ[i]?) fun o => wpO o fun d => QD d η := by
  unfold gv
  cases e : ρ[i]? with
  | none => exact Iff.rfl
  | some o => cases o <;> exact Iff.rfl
@[simp] theorem w_cst {d : D} : wpR (cst d ρ η) QD E ↔ QD d η := Iff.rfl
@[simp] theorem w_e1 {g : G1} : wpR (e1 g fa ρ η) QD E ↔ wpR (fa ρ η) (fun x η => wpO (g x η) fun p => QD p.1 p.2) E := by
  unfold e1; rw [wpR_bind]; simp only [wpR_lift]
@[simp] theorem w_e2 {g : G2} : wpR (e2 g fa fb ρ η) QD E ↔ wpR (fa ρ η) (fun x η => wpR (fb ρ η) (fun y η => wpO (g x y η) fun p => QD p.1 p.2) E) E := by
  unfold e2; rw [wpR_bind]; simp only [wpR_lift, wpR_bind]
@[simp] theorem w_eL {g : GL} : wpR (eL g fA ρ η) QD E ↔ wpR (fA ρ η) (fun xs η => wpO (g xs η) fun p => QD p.1 p.2) E := by
  unfold eL; rw [wpR_bind]; simp only [wpR_lift]
@[simp] theorem w_aNil : wpR (aNil ρ η) QL E ↔ QL [] η := Iff.rfl
@[simp] theorem w_aCons : wpR (aCons f fA ρ η) QL E ↔ wpR (f ρ η) (fun d η => wpR (fA ρ η) (fun ds η => QL (d :: ds) η) E) E := by
  unfold aCons; rw [wpR_bind]; simp only [wpR_bind, wpR_ok]
theorem wpR_ite {c : Prop} [Decidable c] {r r' : R α} : wpR (if c then r else r') Q E ↔ if c then wpR r Q E else wpR r' Q E := by split <;> exact Iff.rfl
@[simp] theorem w_mkT : wpR (mkT fA ρ η) QD E ↔ wpR (fA ρ η) (fun ds η => ds.length ≤ sizeLine ∧ QD (.tup ds) η) E := by
  unfold mkT; rw [wpR_bind]
  have e : ∀ (ds : List D) (η : Store), wpR (if ds.length ≤ sizeLine then R.ok (D.tup ds) η else R.no) QD E ↔ ds.length ≤ sizeLine ∧ QD (.tup ds) η := fun ds η => by
    by_cases h : ds.length ≤ sizeLine
    · rw [if_pos h]; simp [h]
    · rw [if_neg h]; simp [h]
  exact wpR_congr e
@[simp] theorem w_mkL : wpR (mkL fA ρ η) QD E ↔ wpR (fA ρ η) (fun ds η => ds.length ≤ sizeLine ∧ QD (.lst ds) η) E := by
  unfold mkL; rw [wpR_bind]
  have e : ∀ (ds : List D) (η : Store), wpR (if ds.length ≤ sizeLine then R.ok (D.lst ds) η else R.no) QD E ↔ ds.length ≤ sizeLine ∧ QD (.lst ds) η := fun ds η => by
    by_cases h : ds.length ≤ sizeLine
    · rw [if_pos h]; simp [h]
    · rw [if_neg h]; simp [h]
  exact wpR_congr e
@[simp] theorem w_mkO : wpR (mkO fA ρ η) QD E ↔ wpR (fA ρ η) (fun ds η => ds.length ≤ sizeLine ∧ QD (.obj η.length) (η ++ [.lst ds])) E := by
  unfold mkO; rw [wpR_bind]
  have e : ∀ (ds : List D) (η : Store), wpR (if ds.length ≤ sizeLine then R.ok (D.obj η.length) (η ++ [.lst ds]) else R.no) QD E ↔ ds.length ≤ sizeLine ∧ QD (.obj η.length) (η ++ [.lst ds]) := fun ds η => by
    by_cases h : ds.length ≤ sizeLine
    · rw [if_pos h]; simp [h]
    · rw [if_neg h]; simp [h]
  exact wpR_congr e
@[simp] theorem w_oNone {QO : Option Int → Store → Prop} : wpR (oNone ρ η) QO E ↔ QO none η := Iff.rfl
def isI (d : D) : Option Int := match d with
  | .int i => some i
  | _ => none
@[simp] theorem isI_int {i : Int} : isI (.int i) = some i := rfl
@[simp] theorem w_oSome {QO : Option Int → Store → Prop} : wpR (oSome f ρ η) QO E ↔ wpR (f ρ η) (fun d η => wpO (isI d) fun i => QO (some i) η) E := by
  unfold oSome; rw [wpR_bind]
  have e : ∀ (d : D) (η : Store), wpR (match d with | .int i => R.ok (some i) η | _ => R.no) QO E ↔ wpO (isI d) fun i => QO (some i) η := fun d η => by
    cases d <;> exact Iff.rfl
  exact wpR_congr e
@[simp] theorem w_eSl {g : GS} {fl fh : FO} : wpR (eSl g fa fl fh ρ η) QD E ↔ wpR (fa ρ η) (fun x η => wpR (fl ρ η) (fun l η => wpR (fh ρ η) (fun u η => wpO (g x l u η) fun p => QD p.1 p.2) E) E) E := by
  unfold eSl; rw [wpR_bind]; simp only [wpR_lift, wpR_bind]
@[simp] theorem w_eCall {n : Nat} {F : FF} : wpR (eCall n F fA ρ η) QD E ↔ wpR (fA ρ η) (fun ds η => ds.length = n ∧ wpR (F ds η) QD E) E := by
  unfold eCall; rw [wpR_bind]
  have e : ∀ (ds : List D) (η : Store), wpR (if ds.length = n then F ds η else .no) QD E ↔ ds.length = n ∧ wpR (F ds η) QD E := fun ds η => by
    by_cases h : ds.length = n
    · rw [if_pos h]; simp [h]
    · rw [if_neg h]; simp [h]
  exact wpR_congr e
@[simp] theorem w_eMt {T : String} {g : D → GL} : wpR (eMt T g fa fA ρ η) QD E ↔ wpR (fa ρ η) (fun x η => tyM T x η = true ∧ wpR (fA ρ η) (fun xs η => wpO (g x xs η) fun p => QD p.1 p.2) E) E := by
  unfold eMt; rw [wpR_bind]
  have e : ∀ (x : D) (η : Store), wpR (if tyM T x η = true then (fA ρ η).bind fun xs η => liftO (g x xs η) else .no) QD E ↔ tyM T x η = true ∧ wpR (fA ρ η) (fun xs η => wpO (g x xs η) fun p => QD p.1 p.2) E := fun x η => by
    by_cases h : tyM T x η = true
    · rw [if_pos h, wpR_bind]; simp [h, wpR_lift]
    · rw [if_neg h]; simp [h]
  exact wpR_congr e
@[simp] theorem w_eMt0 {T : String} {g : D → GL} : wpR (eMt0 T g fa ρ η) QD E ↔ wpR (fa ρ η) (fun x η => tyM T x η = true ∧ wpO (g x [] η) fun p => QD p.1 p.2) E := by
  unfold eMt0; rw [wpR_bind]
  have e : ∀ (x : D) (η : Store), wpR (if tyM T x η = true then liftO (g x [] η) else .no) QD E ↔ tyM T x η = true ∧ wpO (g x [] η) fun p => QD p.1 p.2 := fun x η => by
    by_cases h : tyM T x η = true
    · rw [if_pos h]; simp [h, wpR_lift]
    · rw [if_neg h]; simp [h]
  exact wpR_congr e
@[simp] theorem w_chn {g g' : G2} : wpR (chn g g' fa fb fc ρ η) QD E ↔ wpR (fa ρ η) (fun x η => wpR (fb ρ η) (fun y η => wpO (g x y η) fun p => match p.1 with
    | .bl true => wpR (fc ρ p.2) (fun u η => wpO (g' y u η) fun p => QD p.1 p.2) E
    | .bl false => QD (.bl false) p.2
    | _ => False) E) E := by
  unfold chn; rw [wpR_bind]
  have e : ∀ (x : D) (η : Store), wpR ((fb ρ η).bind fun y η => (liftO (g x y η)).bind fun z η => match z with
      | .bl true => (fc ρ η).bind fun u η => liftO (g' y u η)
      | .bl false => .ok (.bl false) η
      | _ => .no) QD E ↔ wpR (fb ρ η) (fun y η => wpO (g x y η) fun p => match p.1 with
        | .bl true => wpR (fc ρ p.2) (fun u η => wpO (g' y u η) fun p => QD p.1 p.2) E
        | .bl false => QD (.bl false) p.2
        | _ => False) E := fun x η => by
    rw [wpR_bind]
    have e2 : ∀ (y : D) (η : Store), wpR ((liftO (g x y η)).bind fun z η => match z with
      | .bl true => (fc ρ η).bind fun u η => liftO (g' y u η)
      | .bl false => .ok (.bl false) η
      | _ => .no) QD E ↔ wpO (g x y η) fun p => match p.1 with
        | .bl true => wpR (fc ρ p.2) (fun u η => wpO (g' y u η) fun p => QD p.1 p.2) E
        | .bl false => QD (.bl false) p.2
        | _ => False := fun y η => by
      rw [wpR_bind]
      cases h : g x y η with
      | none => exact Iff.rfl
      | some p =>
        obtain ⟨z, η2⟩ := p
        cases z with
        | bl b =>
          cases b
          · exact Iff.rfl
          · show wpR ((fc ρ η2).bind fun u η => liftO (g' y u η)) QD E ↔ _
            rw [wpR_bind]; simp only [wpR_lift]; exact Iff.rfl
        | _ => exact Iff.rfl
    simp only [e2]
  exact wpR_congr e
/-! tests -/
@[simp] theorem w_tru : wpR (tru f ρ η) QB E ↔ wpR (f ρ η) (fun d η => wpO (truD d η) fun b => QB b η) E := by
  unfold tru; rw [wpR_bind]
  have e : ∀ (d : D) (η : Store), wpR (match truD d η with | some b => R.ok b η | none => R.no) QB E ↔ wpO (truD d η) fun b => QB b η := fun d η => by
    cases truD d η <;> exact Iff.rfl
  exact wpR_congr e
def isB (d : D) : Option Bool := match d with
  | .bl i => some i
  | _ => none
@[simp] theorem isB_bl {i : Bool} : isB (.bl i) = some i := rfl
@[simp] theorem w_tst : wpR (tst f ρ η) QB E ↔ wpR (f ρ η) (fun d η => wpO (isB d) fun b => QB b η) E := by
  unfold tst; rw [wpR_bind]
  have e : ∀ (d : D) (η : Store), wpR (match d with | .bl b => R.ok b η | _ => R.no) QB E ↔ wpO (isB d) fun b => QB b η := fun d η => by
    cases d <;> exact Iff.rfl
  exact wpR_congr e
@[simp] theorem w_andT : wpR (andT s t ρ η) QB E ↔ wpR (s ρ η) (fun b η => if b = true then wpR (t ρ η) QB E else QB false η) E := by
  unfold andT; rw [wpR_bind]; simp only [wpR_ite, wpR_ok]
@[simp] theorem w_orT : wpR (orT s t ρ η) QB E ↔ wpR (s ρ η) (fun b η => if b = true then QB true η else wpR (t ρ η) QB E) E := by
  unfold orT; rw [wpR_bind]; simp only [wpR_ite, wpR_ok]
@[simp] theorem w_notT : wpR (notT s ρ η) QB E ↔ wpR (s ρ η) (fun b η => QB (!b) η) E := by
  unfold notT; rw [wpR_bind]; simp only [wpR_ok]
@[simp] theorem w_yes : wpR (yes ρ η) QB E ↔ QB true η := Iff.rfl
@[simp] theorem w_andE : wpR (andE fa fb ρ η) QD E ↔ wpR (fa ρ η) (fun d η => wpO (truD d η) fun b => if b = true then wpR (fb ρ η) QD E else QD d η) E := by
  unfold andE; rw [wpR_bind]
  have e : ∀ (d : D) (η : Store), wpR (match truD d η with | some true => fb ρ η | some false => R.ok d η | none => R.no) QD E ↔ wpO (truD d η) fun b => if b = true then wpR (fb ρ η) QD E else QD d η := fun d η => by
    cases h : truD d η with
    | none => exact Iff.rfl
    | some b => cases b <;> simp
  exact wpR_congr e
@[simp] theorem w_orE : wpR (orE fa fb ρ η) QD E ↔ wpR (fa ρ η) (fun d η => wpO (truD d η) fun b => if b = true then QD d η else wpR (fb ρ η) QD E) E := by
  unfold orE; rw [wpR_bind]
  have e : ∀ (d : D) (η : Store), wpR (match truD d η with | some true => R.ok d η | some false => fb ρ η | none => R.no) QD E ↔ wpO (truD d η) fun b => if b = true then QD d η else wpR (fb ρ η) QD E := fun d η => by
    cases h : truD d η with
    | none => exact Iff.rfl
    | some b => cases b <;> simp
  exact wpR_congr e
@[simp] theorem w_notE : wpR (notE fa ρ η) QD E ↔ wpR (fa ρ η) (fun d η => wpO (truD d η) fun b => QD (.bl (!b)) η) E := by
  unfold notE; rw [wpR_bind]
  have e : ∀ (d : D) (η : Store), wpR (match truD d η with | some b => R.ok (D.bl (!b)) η | none => R.no) QD E ↔ wpO (truD d η) fun b => QD (.bl (!b)) η := fun d η => by
    cases h : truD d η <;> exact Iff.rfl
  exact wpR_congr e
@[simp] theorem w_ifE : wpR (ifE s fa fb ρ η) QD E ↔ wpR (s ρ η) (fun b η => if b = true then wpR (fa ρ η) QD E else wpR (fb ρ η) QD E) E := by
  unfold ifE; rw [wpR_bind]; simp only [wpR_ite]
/-! statements -/
variable {fs gs : FS}
@[simp] theorem w_nil : wpS (sNil ρ η) P ↔ P.nx ρ η := Iff.rfl
@[simp] theorem w_brk : wpS (sBrk ρ η) P ↔ P.bk ρ η := Iff.rfl
@[simp] theorem w_cnt : wpS (sCnt ρ η) P ↔ P.ct ρ η := Iff.rfl
@[simp] theorem w_retN : wpS (sRetN ρ η) P ↔ P.rt .non η := Iff.rfl
@[simp] theorem w_nxS : wpS (.nx ρ η) P ↔ P.nx ρ η := Iff.rfl
@[simp] theorem w_retS {d : D} : wpS (.ret d η) P ↔ P.rt d η := Iff.rfl
@[simp] theorem w_brkS : wpS (.brk ρ η) P ↔ P.bk ρ η := Iff.rfl
@[simp] theorem w_cntS : wpS (.cnt ρ η) P ↔ P.ct ρ η := Iff.rfl
@[simp] theorem w_excS : wpS (.exc x ρ η) P ↔ P.ex x ρ η := Iff.rfl
@[simp] theorem w_noS : wpS .no P ↔ False := Iff.rfl
@[simp] theorem w_seq : wpS (sSeq fs gs ρ η) P ↔ wpS (fs ρ η) ⟨fun ρ η => wpS (gs ρ η) P, P.rt, P.bk, P.ct, P.ex⟩ := by
  unfold sSeq
  cases h : fs ρ η <;> exact Iff.rfl
@[simp] theorem w_exp : wpS (sExp f ρ η) P ↔ wpR (f ρ η) (fun _ η => P.nx ρ η) (fun x η => P.ex x ρ η) := by
  unfold sExp; rw [wpS_bindS]; exact Iff.rfl
@[simp] theorem w_ret : wpS (sRet f ρ η) P ↔ wpR (f ρ η) (fun d η => P.rt d η) (fun x η => P.ex x ρ η) := by
  unfold sRet; rw [wpS_bindS]; exact Iff.rfl
theorem wpS_ite {c : Prop} [Decidable c] {r r' : RS} : wpS (if c then r else r') P ↔ if c then wpS r P else wpS r' P := by split <;> exact Iff.rfl
@[simp] theorem w_sIf : wpS (sIf s fs gs ρ η) P ↔ wpR (s ρ η) (fun b η => if b = true then wpS (fs ρ η) P else wpS (gs ρ η) P) (fun x η => P.ex x ρ η) := by
  unfold sIf; rw [wpS_bindS]; simp only [wpS_ite]
@[simp] theorem w_asg {b : TGt} : wpS (sAsg f b ρ η) P ↔ wpR (f ρ η) (fun d η => wpO (b d ρ) fun ρ => P.nx ρ η) (fun x η => P.ex x ρ η) := by
  unfold sAsg; rw [wpS_bindS]
  have e : ∀ (d : D) (η : Store), wpS (match b d ρ with | some ρ => RS.nx ρ η | none => .no) P ↔ wpO (b d ρ) fun ρ => P.nx ρ η := fun d η => by
    cases b d ρ <;> exact Iff.rfl
  exact wpR_congr e
@[simp] theorem w_par {i j : Nat} : wpS (sPar i j fa fb ρ η) P ↔ wpR (fa ρ η) (fun x η => wpR (fb ρ η) (fun y η => P.nx ((ρ.set i (some x)).set j (some y)) η) (fun x η => P.ex x ρ η)) (fun x η => P.ex x ρ η) := by
  unfold sPar; rw [wpS_bindS]; simp only [wpS_bindS, w_nxS]
@[simp] theorem w_setIx {g : GSet} {fo fi : FE} : wpS (sSetIx g f fo fi ρ η) P ↔ wpR (f ρ η) (fun v η => wpR (fo ρ η) (fun o η => wpR (fi ρ η) (fun i η => wpO (g o i v η) fun η => P.nx ρ η) (fun x η => P.ex x ρ η)) (fun x η => P.ex x ρ η)) (fun x η => P.ex x ρ η) := by
  unfold sSetIx; rw [wpS_bindS]
  have e : ∀ (v o i : D) (η : Store), wpS (match g o i v η with | some η => RS.nx ρ η | none => .no) P ↔ wpO (g o i v η) fun η => P.nx ρ η := fun v o i η => by
    cases g o i v η <;> exact Iff.rfl
  refine wpR_congr fun a η => ?_
  rw [wpS_bindS]
  refine wpR_congr fun a2 η => ?_
  rw [wpS_bindS]
  exact wpR_congr fun a3 η => e a a2 a3 η
@[simp] theorem b_bN {i : Nat} {d : D} : bN i d ρ = some (ρ.set i (some d)) := rfl
@[simp] theorem b_bTs_nil : bTs [] [] ρ = some ρ := rfl
@[simp] theorem b_bTs_cons {b : TGt} {bs : List TGt} {d : D} {ds : List D} : bTs (b :: bs) (d :: ds) ρ = (b d ρ).bind (bTs bs ds) := by
  show (match b d ρ with | some ρ => bTs bs ds ρ | none => none) = _
  cases b d ρ <;> rfl
@[simp] theorem b_bT_tup {bs : List TGt} {ds : List D} : bT bs (.tup ds) ρ = bTs bs ds ρ := rfl
@[simp] theorem b_bT_lst {bs : List TGt} {ds : List D} : bT bs (.lst ds) ρ = bTs bs ds ρ := rfl
/-- a def -/
theorem w_runF {n : Nat} {b : FS} {ds : List D} : wpR (runF n b ds η) QD E ↔ wpS (b (ds.map some ++ List.replicate (n - ds.length) none) η) ⟨fun _ η => QD .non η, QD, fun _ _ => False, fun _ _ => False, fun x _ η => E x η⟩ := by
  unfold runF
  cases b (ds.map some ++ List.replicate (n - ds.length) none) η <;> exact Iff.rfl
/-! loops -/
variable {b : TGt} {body : FS}
theorem w_forL (I : Nat → Env → Store → Prop) : ∀ (xs : List D) (i : Nat) {ρ : Env} {η : Store}, I i ρ η →
    (∀ j x, xs[j]? = some x → ∀ ρ η, I (i + j) ρ η → wpO (b x ρ) fun ρ => wpS (body ρ η) ⟨I (i + j + 1), P.rt, P.nx, I (i + j + 1), P.ex⟩) →
    (∀ ρ η, I (i + xs.length) ρ η → P.nx ρ η) → wpS (forL b body xs ρ η) P
  | [], i, ρ, η, h0, _, h2 => h2 ρ η h0
  | x :: xs, i, ρ, η, h0, h1, h2 => by
    have h := h1 0 x rfl ρ η h0
    unfold forL
    cases eb : b x ρ with
    | none => rw [eb] at h; exact h.elim
    | some ρ1 =>
      rw [eb] at h
      replace h : wpS (body ρ1 η) _ := h
      have st : ∀ j y, xs[j]? = some y → ∀ ρ η, I (i + 1 + j) ρ η → wpO (b y ρ) fun ρ => wpS (body ρ η) ⟨I (i + 1 + j + 1), P.rt, P.nx, I (i + 1 + j + 1), P.ex⟩ := fun j y ey ρ η q => by
        have e : i + (j + 1) = i + 1 + j := by omega
        have := h1 (j + 1) y (by simpa using ey) ρ η (by rw [e]; exact q)
        rw [e] at this
        exact this
      have el : i + (x :: xs).length = i + 1 + xs.length := by simp; omega
      have go : ∀ ρ2 η2, I (i + 0 + 1) ρ2 η2 → wpS (forL b body xs ρ2 η2) P := fun ρ2 η2 q =>
        w_forL I xs (i + 1) q st (fun ρ η q => h2 ρ η (by rw [el]; exact q))
      dsimp only
      cases er : body ρ1 η with
      | nx ρ2 η2 => rw [er] at h; exact go _ _ h
      | cnt ρ2 η2 => rw [er] at h; exact go _ _ h
      | brk ρ2 η2 => rw [er] at h; exact h
      | ret d η2 => rw [er] at h; exact h
      | exc x ρ2 η2 => rw [er] at h; exact h
      | no => rw [er] at h; exact h
theorem w_for {N : Nat} {fi : FI} : wpS (sFor N fi b body ρ η) P ↔ wpR (fi ρ η) (fun src η => match src with
    | .val xs => wpS (forL b body xs ρ η) P
    | .dyn f => wpS (forO b body f N 0 ρ η) P) (fun x η => P.ex x ρ η) := by
  unfold sFor; rw [wpS_bindS]
  have e : ∀ (src : Src) (η : Store), wpS (match src with | .val xs => forL b body xs ρ η | .dyn f => forO b body f N 0 ρ η) P ↔ (match src with
    | .val xs => wpS (forL b body xs ρ η) P
    | .dyn f => wpS (forO b body f N 0 ρ η) P) := fun src η => by cases src <;> exact Iff.rfl
  exact wpR_congr e
theorem w_whl (I : Nat → Env → Store → Prop) (h : ∀ m ρ η, I m ρ η → wpR (s ρ η) (fun b η => if b = true then ∃ m', m = m' + 1 ∧ wpS (body ρ η) ⟨I m', P.rt, P.nx, I m', P.ex⟩ else P.nx ρ η) (fun x η => P.ex x ρ η)) :
    ∀ (m N : Nat) {ρ : Env} {η : Store}, I m ρ η → m < N → wpS (whl s body N ρ η) P
  | _, 0, ρ, η, _, hN => by omega
  | m, N + 1, ρ, η, h0, hN => by
    unfold whl
    rw [wpS_bindS]
    refine wpR_imp (h m ρ η h0) (fun bb η2 q => ?_) (fun _ _ q => q)
    split
    · rename_i hb
      rw [if_pos hb] at q
      obtain ⟨m', em, q⟩ := q
      cases er : body ρ η2 with
      | nx ρ2 η2 => rw [er] at q; exact w_whl I h m' N q (by omega)
      | cnt ρ2 η2 => rw [er] at q; exact w_whl I h m' N q (by omega)
      | brk ρ2 η2 => rw [er] at q; exact q
      | ret d η2 => rw [er] at q; exact q
      | exc x ρ2 η2 => rw [er] at q; exact q
      | no => rw [er] at q; exact q
    · rename_i hb
      rw [if_neg hb] at q
      exact q
/-! comprehensions -/
theorem w_lc {N : Nat} {vs : List Nat} {fi : FI} {te : FE} : wpR (lc N vs fi b s te ρ η) QD E ↔ wpR (fi ρ η) (fun src η => wpR (nx (cmpS N src b s te (wipeD ρ vs) η)) (fun ys η => ys.length ≤ sizeLine ∧ QD (.lst ys) η) E) E := by
  unfold lc; rw [wpR_bind]
  have e : ∀ (ys : List D) (η : Store), wpR (if ys.length ≤ sizeLine then R.ok (D.lst ys) η else .no) QD E ↔ ys.length ≤ sizeLine ∧ QD (.lst ys) η := fun ds η => by
    by_cases h : ds.length ≤ sizeLine
    · rw [if_pos h]; simp [h]
    · rw [if_neg h]; simp [h]
  refine wpR_congr fun a η => ?_
  rw [wpR_bind]; exact wpR_congr e
theorem w_lcO {N : Nat} {vs : List Nat} {fi : FI} {te : FE} : wpR (lcO N vs fi b s te ρ η) QD E ↔ wpR (fi ρ η) (fun src η => wpR (nx (cmpS N src b s te (wipeD ρ vs) η)) (fun ys η => ys.length ≤ sizeLine ∧ QD (.obj η.length) (η ++ [.lst ys])) E) E := by
  unfold lcO; rw [wpR_bind]
  have e : ∀ (ys : List D) (η : Store), wpR (if ys.length ≤ sizeLine then R.ok (D.obj η.length) (η ++ [.lst ys]) else .no) QD E ↔ ys.length ≤ sizeLine ∧ QD (.obj η.length) (η ++ [.lst ys]) := fun ds η => by
    by_cases h : ds.length ≤ sizeLine
    · rw [if_pos h]; simp [h]
    · rw [if_neg h]; simp [h]
  refine wpR_congr fun a η => ?_
  rw [wpR_bind]; exact wpR_congr e
theorem w_nx {r : R α} : wpR (nx r) Q E ↔ wpR r Q (fun _ _ => False) := by cases r <;> exact Iff.rfl
/-- a comprehension, by an invariant: the turn, what is made, the store -/
theorem w_cmp {te : FE} {E : Ex → Store → Prop} (I : Nat → List D → Store → Prop) : ∀ (xs : List D) (i : Nat) (acc : List D) {η : Store} {QL : List D → Store → Prop}, I i acc η →
    (∀ j x, xs[j]? = some x → ∀ acc η, I (i + j) acc η → wpO (b x ρ) fun ρ => wpR (s ρ η) (fun k η => if k = true then wpR (te ρ η) (fun y η => I (i + j + 1) (acc ++ [y]) η) E else I (i + j + 1) acc η) E) →
    (∀ ys η, I (i + xs.length) (acc ++ ys) η → QL ys η) → wpR (cmp b s te ρ xs η) QL E
  | [], i, acc, η, _, h0, _, h2 => h2 [] η (by simpa using h0)
  | x :: xs, i, acc, η, _, h0, h1, h2 => by
    have h := h1 0 x rfl acc η h0
    unfold cmp
    cases eb : b x ρ with
    | none => rw [eb] at h; exact h.elim
    | some ρ1 =>
      rw [eb] at h
      replace h : wpR (s ρ1 η) _ _ := h
      dsimp only
      rw [wpR_bind]
      have st : ∀ j y, xs[j]? = some y → ∀ acc η, I (i + 1 + j) acc η → wpO (b y ρ) fun ρ => wpR (s ρ η) (fun k η => if k = true then wpR (te ρ η) (fun y η => I (i + 1 + j + 1) (acc ++ [y]) η) E else I (i + 1 + j + 1) acc η) E := fun j y ey acc η q => by
        have e : i + (j + 1) = i + 1 + j := by omega
        have := h1 (j + 1) y (by simpa using ey) acc η (by rw [e]; exact q)
        rw [e] at this
        exact this
      have e : i + (x :: xs).length = i + 1 + xs.length := by simp; omega
      refine wpR_imp h (fun k η2 q => ?_) (fun _ _ q => q)
      rw [wpR_ite]
      split
      · rename_i hk
        rw [if_pos hk] at q
        rw [wpR_bind]
        refine wpR_imp q (fun y η3 q => ?_) (fun _ _ q => q)
        rw [wpR_bind]
        refine w_cmp I xs (i + 1) (acc ++ [y]) q st (fun ys η q => ?_)
        refine h2 (y :: ys) η ?_
        rw [e]
        simpa using q
      · rename_i hk
        rw [if_neg hk] at q
        refine w_cmp I xs (i + 1) acc q st (fun ys η q => h2 ys η ?_)
        rw [e]; exact q
/-- .. that changes nothing: an item each -/
theorem cmp_map {te : FE} (g : D → D) : ∀ (xs : List D), (∀ x ∈ xs, ∃ ρ1, b x ρ = some ρ1 ∧ s ρ1 η = .ok true η ∧ te ρ1 η = .ok (g x) η) → cmp b s te ρ xs η = .ok (xs.map g) η
  | [], _ => rfl
  | x :: xs, h => by
    obtain ⟨ρ1, e1, e2, e3⟩ := h x List.mem_cons_self
    have ih := cmp_map g xs fun y hy => h y (List.mem_cons_of_mem _ hy)
    unfold cmp
    rw [e1]; dsimp only
    rw [e2, R.bind_ok, if_pos rfl, e3, R.bind_ok, ih, R.bind_ok]; rfl
/-- .. with a test -/
theorem cmp_fmap {te : FE} (p : D → Bool) (g : D → D) : ∀ (xs : List D), (∀ x ∈ xs, ∃ ρ1, b x ρ = some ρ1 ∧ s ρ1 η = .ok (p x) η ∧ (p x = true → te ρ1 η = .ok (g x) η)) → cmp b s te ρ xs η = .ok ((xs.filter p).map g) η
  | [], _ => rfl
  | x :: xs, h => by
    obtain ⟨ρ1, e1, e2, e3⟩ := h x List.mem_cons_self
    have ih := cmp_fmap p g xs fun y hy => h y (List.mem_cons_of_mem _ hy)
    unfold cmp
    rw [e1]; dsimp only
    rw [e2, R.bind_ok]
    cases hp : p x with
    | true => rw [if_pos rfl, e3 hp, R.bind_ok, ih, R.bind_ok, List.filter_cons_of_pos hp]; rfl
    | false => rw [if_neg (by simp), ih, List.filter_cons_of_neg (by simp [hp])]
end
end Dn
/-! Dn part 14: == over plain data; the operations at hand. -/
namespace Dn
open PySem PySem.Spec PyProof.Rows L2
mutual
/-- plain data of a depth -/
def D.pl : Nat → D → Bool
  | _, .non => true
  | _, .bl _ => true
  | _, .int _ => true
  | _, .str x => PyData.canLay0 (.str x)
  | n + 1, .tup xs => D.pls n xs
  | n + 1, .lst xs => D.pls n xs
  | _, _ => false
def D.pls : Nat → List D → Bool
  | _, [] => true
  | n, x :: xs => D.pl n x && D.pls n xs
end
mutual
/-- == of plain data -/
def D.eq : D → D → Bool
  | .non, .non => true
  | .bl a, .bl b => a == b
  | .bl a, .int j => (if a then 1 else 0) == j
  | .int i, .bl b => i == (if b then 1 else 0)
  | .int i, .int j => i == j
  | .str x, .str y => x == y
  | .tup xs, .tup ys => D.eqs xs ys
  | .lst xs, .lst ys => D.eqs xs ys
  | _, _ => false
def D.eqs : List D → List D → Bool
  | [], [] => true
  | x :: xs, y :: ys => D.eq x y && D.eqs xs ys
  | _, _ => false
end
mutual
theorem pl_pd0 : ∀ (n : Nat) (d : D), D.pl n d = true → ∃ q, pd0 d = some q ∧ q.canLay0 = true ∧ q.depth ≤ n
  | _, .non, _ => ⟨_, rfl, rfl, Nat.zero_le _⟩
  | _, .bl _, _ => ⟨_, rfl, rfl, Nat.zero_le _⟩
  | _, .int _, _ => ⟨_, rfl, rfl, Nat.zero_le _⟩
  | _, .str x, h => ⟨_, rfl, by simpa [D.pl] using h, Nat.zero_le _⟩
  | n + 1, .tup xs, h => by
    obtain ⟨qs, e, c, d⟩ := pls_pd0 n xs h
    exact ⟨.tuple qs, by show (pds0 xs).map _ = _; rw [e]; rfl, c, Nat.succ_le_succ d⟩
  | n + 1, .lst xs, h => by
    obtain ⟨qs, e, c, d⟩ := pls_pd0 n xs h
    exact ⟨.list qs, by show (pds0 xs).map _ = _; rw [e]; rfl, c, Nat.succ_le_succ d⟩
  | 0, .tup xs, h => by simp [D.pl] at h
  | 0, .lst xs, h => by simp [D.pl] at h
  | _, .scr xs, h => by simp [D.pl] at h
  | _, .obj xs, h => by simp [D.pl] at h
  | _, .gl xs, h => by simp [D.pl] at h
  | _, .ty xs, h => by simp [D.pl] at h
  | _, .adr xs, h => by simp [D.pl] at h
theorem pls_pd0 : ∀ (n : Nat) (ds : List D), D.pls n ds = true → ∃ qs, pds0 ds = some qs ∧ PyData.canLayAll0 qs = true ∧ PyData.depthAll qs ≤ n
  | _, [], _ => ⟨[], rfl, rfl, Nat.zero_le _⟩
  | n, x :: xs, h => by
    have h' := Bool.and_eq_true_iff.mp (show (D.pl n x && D.pls n xs) = true from h)
    obtain ⟨q, e, c, d⟩ := pl_pd0 n x h'.1
    obtain ⟨qs, e2, c2, d2⟩ := pls_pd0 n xs h'.2
    refine ⟨q :: qs, ?_, ?_, Nat.max_le.mpr ⟨d, d2⟩⟩
    · unfold pds0; rw [e, e2]
    · exact Bool.and_eq_true_iff.mpr ⟨c, c2⟩
end
theorem pds0_cons {x : D} {xs : List D} {qs : List PyData} (h : pds0 (x :: xs) = some qs) : ∃ p ps, pd0 x = some p ∧ pds0 xs = some ps ∧ qs = p :: ps := by
  unfold pds0 at h
  split at h
  · rename_i d ds e1 e2
    cases h
    exact ⟨d, ds, e1, e2, rfl⟩
  · cases h
theorem pd0_tup {xs : List D} {q : PyData} (h : pd0 (.tup xs) = some q) : ∃ ps, pds0 xs = some ps ∧ q = .tuple ps := by
  have h' : (pds0 xs).map PyData.tuple = some q := h
  cases e : pds0 xs with
  | none => rw [e] at h'; cases h'
  | some ps => rw [e] at h'; cases h'; exact ⟨ps, rfl, rfl⟩
theorem pd0_lst {xs : List D} {q : PyData} (h : pd0 (.lst xs) = some q) : ∃ ps, pds0 xs = some ps ∧ q = .list ps := by
  have h' : (pds0 xs).map PyData.list = some q := h
  cases e : pds0 xs with
  | none => rw [e] at h'; cases h'
  | some ps => rw [e] at h'; cases h'; exact ⟨ps, rfl, rfl⟩
theorem pds0_nil {qs : List PyData} (h : pds0 [] = some qs) : qs = [] := by
  have h' : some ([] : List PyData) = some qs := h
  cases h'; rfl
mutual
theorem eqv_ok : ∀ (x y : D) (p q : PyData), pd0 x = some p → pd0 y = some q → PyData.eqv p q = D.eq x y
  | .tup xs, y, p, q, h1, h2 => by
    obtain ⟨ps, e, rfl⟩ := pd0_tup h1
    cases y with
    | tup ys => obtain ⟨qs, e2, rfl⟩ := pd0_tup h2; exact eqvs_ok xs ys ps qs e e2
    | lst ys => obtain ⟨qs, e2, rfl⟩ := pd0_lst h2; simp [PyData.eqv, D.eq]
    | _ => cases h2 <;> simp [PyData.eqv, D.eq]
  | .lst xs, y, p, q, h1, h2 => by
    obtain ⟨ps, e, rfl⟩ := pd0_lst h1
    cases y with
    | tup ys => obtain ⟨qs, e2, rfl⟩ := pd0_tup h2; simp [PyData.eqv, D.eq]
    | lst ys => obtain ⟨qs, e2, rfl⟩ := pd0_lst h2; exact eqvs_ok xs ys ps qs e e2
    | _ => cases h2 <;> simp [PyData.eqv, D.eq]
  | .non, y, p, q, h1, h2 => by
    cases h1
    cases y with
    | tup ys => obtain ⟨qs, e2, rfl⟩ := pd0_tup h2; simp [PyData.eqv, D.eq]
    | lst ys => obtain ⟨qs, e2, rfl⟩ := pd0_lst h2; simp [PyData.eqv, D.eq]
    | _ => cases h2 <;> simp [PyData.eqv, D.eq]
  | .bl a, y, p, q, h1, h2 => by
    cases h1
    cases y with
    | tup ys => obtain ⟨qs, e2, rfl⟩ := pd0_tup h2; simp [PyData.eqv, D.eq]
    | lst ys => obtain ⟨qs, e2, rfl⟩ := pd0_lst h2; simp [PyData.eqv, D.eq]
    | _ => cases h2 <;> simp [PyData.eqv, D.eq]
  | .int a, y, p, q, h1, h2 => by
    cases h1
    cases y with
    | tup ys => obtain ⟨qs, e2, rfl⟩ := pd0_tup h2; simp [PyData.eqv, D.eq]
    | lst ys => obtain ⟨qs, e2, rfl⟩ := pd0_lst h2; simp [PyData.eqv, D.eq]
    | _ => cases h2 <;> simp [PyData.eqv, D.eq]
  | .str a, y, p, q, h1, h2 => by
    cases h1
    cases y with
    | tup ys => obtain ⟨qs, e2, rfl⟩ := pd0_tup h2; simp [PyData.eqv, D.eq]
    | lst ys => obtain ⟨qs, e2, rfl⟩ := pd0_lst h2; simp [PyData.eqv, D.eq]
    | _ => cases h2 <;> simp [PyData.eqv, D.eq]
  | .scr xs, y, p, q, h1, h2 => by cases h1
  | .obj xs, y, p, q, h1, h2 => by cases h1
  | .gl xs, y, p, q, h1, h2 => by cases h1
  | .ty xs, y, p, q, h1, h2 => by cases h1
  | .adr xs, y, p, q, h1, h2 => by cases h1
theorem eqvs_ok : ∀ (xs ys : List D) (ps qs : List PyData), pds0 xs = some ps → pds0 ys = some qs → PyData.eqvAll ps qs = D.eqs xs ys
  | [], [], ps, qs, h1, h2 => by
    obtain rfl := pds0_nil h1; obtain rfl := pds0_nil h2
    simp [PyData.eqvAll, D.eqs]
  | [], y :: ys, ps, qs, h1, h2 => by
    obtain rfl := pds0_nil h1
    obtain ⟨q, qs', e3, e4, rfl⟩ := pds0_cons h2
    simp [PyData.eqvAll, D.eqs]
  | x :: xs, [], ps, qs, h1, h2 => by
    obtain rfl := pds0_nil h2
    obtain ⟨q, qs', e3, e4, rfl⟩ := pds0_cons h1
    simp [PyData.eqvAll, D.eqs]
  | x :: xs, y :: ys, ps, qs, h1, h2 => by
    obtain ⟨p, ps', e1, e2, rfl⟩ := pds0_cons h1
    obtain ⟨q, qs', e3, e4, rfl⟩ := pds0_cons h2
    have i1 := eqv_ok x y p q e1 e3
    have i2 := eqvs_ok xs ys ps' qs' e2 e4
    simp only [PyData.eqvAll, D.eqs, i1, i2]
end
/-- the value behind a thing, for == -/
def D.vw (η : Store) : D → D
  | .obj i => match η[i]? with
    | some (.lst xs) => .lst xs
    | _ => .obj i
  | d => d
theorem pd_vw (d : D) (η : Store) : pd d η = pd0 (d.vw η) := by
  cases d with
  | obj i =>
    unfold pd D.vw
    dsimp only
    cases e : η[i]? with
    | none => rfl
    | some o => cases o <;> rfl
  | _ => rfl
theorem eqD_pl {x y : D} {η : Store} (hx : D.pl 60 (x.vw η) = true) (hy : D.pl 60 (y.vw η) = true) : eqD x y η = some (.bl (D.eq (x.vw η) (y.vw η)), η) := by
  obtain ⟨p, e1, c1, d1⟩ := pl_pd0 _ _ hx
  obtain ⟨q, e2, c2, d2⟩ := pl_pd0 _ _ hy
  unfold eqD
  rw [pd_vw, pd_vw, e1, e2]
  dsimp only
  have h1 : plainQ p := Bool.and_eq_true_iff.mpr ⟨c1, decide_eq_true (by omega)⟩
  have h2 : plainQ q := Bool.and_eq_true_iff.mpr ⟨c2, decide_eq_true (by omega)⟩
  rw [if_pos ⟨h1, h2⟩, eqv_ok _ _ _ _ e1 e2]
theorem neD_pl {x y : D} {η : Store} (hx : D.pl 60 (x.vw η) = true) (hy : D.pl 60 (y.vw η) = true) : neD x y η = some (.bl (!D.eq (x.vw η) (y.vw η)), η) := by
  obtain ⟨p, e1, c1, d1⟩ := pl_pd0 _ _ hx
  obtain ⟨q, e2, c2, d2⟩ := pl_pd0 _ _ hy
  unfold neD
  rw [pd_vw, pd_vw, e1, e2]
  dsimp only
  have h1 : plainQ p := Bool.and_eq_true_iff.mpr ⟨c1, decide_eq_true (by omega)⟩
  have h2 : plainQ q := Bool.and_eq_true_iff.mpr ⟨c2, decide_eq_true (by omega)⟩
  rw [if_pos ⟨h1, h2⟩, eqv_ok _ _ _ _ e1 e2]
section
variable {η : Store} {xs ys : List D} {i j : Int} {b : Bool}
@[simp] theorem eqD_int : eqD (.int i) (.int j) η = some (.bl (decide (i = j)), η) := by
  rw [eqD_pl (by rfl) (by rfl)]; rfl
@[simp] theorem neD_int : neD (.int i) (.int j) η = some (.bl (!decide (i = j)), η) := by
  rw [neD_pl (by rfl) (by rfl)]; rfl
/-! the operations on what is known -/
@[simp] theorem addD_int : addD (.int i) (.int j) η = some (.int (i + j), η) := rfl
@[simp] theorem addD_tup : addD (.tup xs) (.tup ys) η = if xs.length + ys.length ≤ sizeLine then some (.tup (xs ++ ys), η) else none := rfl
@[simp] theorem addD_lst_lst : addD (.lst xs) (.lst ys) η = if xs.length + ys.length ≤ sizeLine then some (.lst (xs ++ ys), η) else none := rfl
@[simp] theorem subD_int : subD (.int i) (.int j) η = some (.int (i - j), η) := rfl
theorem mulD_int (h : mulOk i j) : mulD (.int i) (.int j) η = some (.int (i * j), η) := by unfold mulD; exact if_pos h
theorem mulD_l (h : -(2 ^ 64) < i) (h2 : i < 2 ^ 64) : mulD (.int i) (.int j) η = some (.int (i * j), η) := mulD_int (.inl (.inl ⟨h, h2⟩))
theorem mulD_r (h : -(2 ^ 64) < j) (h2 : j < 2 ^ 64) : mulD (.int i) (.int j) η = some (.int (i * j), η) := mulD_int (.inl (.inr ⟨h, h2⟩))
theorem fdivD_int (h : 0 < j) (h2 : j < 1073741824) : fdivD (.int i) (.int j) η = some (.int (i / j), η) := by unfold fdivD; exact if_pos ⟨h, .inl h2⟩
theorem modD_int (h : 0 < j) : modD (.int i) (.int j) η = some (.int (i % j), η) := by unfold modD; exact if_pos h
@[simp] theorem negD_int : negD (.int i) η = some (.int (-i), η) := rfl
@[simp] theorem cmpI_int {p : Int → Int → Bool} : cmpI p (.int i) (.int j) η = some (.bl (p i j), η) := rfl
@[simp] theorem isD_non {x : D} : isD x .non η = some (.bl (isNon x), η) := rfl
@[simp] theorem isD_bl {a b : Bool} : isD (.bl a) (.bl b) η = some (.bl (decide (a = b)), η) := rfl
@[simp] theorem isNotD_non {x : D} : isNotD x .non η = some (.bl (!isNon x), η) := rfl
@[simp] theorem isNotD_bl {a b : Bool} : isNotD (.bl a) (.bl b) η = some (.bl (!decide (a = b)), η) := rfl
@[simp] theorem isNon_int : isNon (.int i) = false := rfl
@[simp] theorem isNon_non : isNon .non = true := rfl
@[simp] theorem isNon_tup : isNon (.tup xs) = false := rfl
@[simp] theorem isNon_lst : isNon (.lst xs) = false := rfl
@[simp] theorem isNon_bl : isNon (.bl b) = false := rfl
@[simp] theorem isNon_str {x : Str} : isNon (.str x) = false := rfl
@[simp] theorem truD_bl : truD (.bl b) η = some b := rfl
@[simp] theorem truD_int : truD (.int i) η = some (i != 0) := rfl
@[simp] theorem truD_non : truD .non η = some false := rfl
@[simp] theorem truD_lst : truD (.lst xs) η = some (!xs.isEmpty) := rfl
@[simp] theorem truD_tup : truD (.tup xs) η = some (!xs.isEmpty) := rfl
@[simp] theorem lenD_tup : lenD [.tup xs] η = some (.int xs.length, η) := rfl
@[simp] theorem lenD_lst : lenD [.lst xs] η = some (.int xs.length, η) := rfl
@[simp] theorem lenD_scr : lenD [.scr xs] η = some (.int xs.length, η) := rfl
@[simp] theorem absD_int : absD [.int i] η = some (.int (if i < 0 then -i else i), η) := rfl
@[simp] theorem intD_int : intD [.int i] η = some (.int i, η) := rfl
@[simp] theorem max2D_int : max2D [.int i, .int j] η = some (.int (if j > i then j else i), η) := rfl
@[simp] theorem min2D_int : min2D [.int i, .int j] η = some (.int (if j < i then j else i), η) := rfl
@[simp] theorem tupleD_lst : tupleD [.lst xs] η = some (.tup xs, η) := rfl
@[simp] theorem tupleD_tup : tupleD [.tup xs] η = some (.tup xs, η) := rfl
@[simp] theorem listD_tup : listD [.tup xs] η = some (.lst xs, η) := rfl
@[simp] theorem listD_lst : listD [.lst xs] η = some (.lst xs, η) := rfl
@[simp] theorem listD_scr : listD [.scr xs] η = some (.lst xs, η) := rfl
theorem allD_lst : allD [.lst xs] η = (boolsOf xs).map fun bs => (.bl (bs.all id), η) := rfl
theorem anyD_lst : anyD [.lst xs] η = (boolsOf xs).map fun bs => (.bl (bs.any id), η) := rfl
theorem sumD_lst : sumD [.lst xs] η = (intsOf xs).map fun ns => (.int ns.sum, η) := rfl
theorem sumD_tup : sumD [.tup xs] η = (intsOf xs).map fun ns => (.int ns.sum, η) := rfl
@[simp] theorem ixD_tup : ixD (.tup xs) (.int i) η = (atI xs i).map (·, η) := rfl
@[simp] theorem ixD_lst : ixD (.lst xs) (.int i) η = (atI xs i).map (·, η) := rfl
@[simp] theorem slD_tup {lo hi : Option Int} : slD (.tup xs) lo hi η = some (.tup (cutL xs lo hi), η) := rfl
@[simp] theorem slD_lst {lo hi : Option Int} : slD (.lst xs) lo hi η = some (.lst (cutL xs lo hi), η) := rfl
@[simp] theorem wpO_map {α β : Type} {f : α → β} {o : Option α} {Q : β → Prop} : wpO (o.map f) Q ↔ wpO o fun a => Q (f a) := by cases o <;> exact Iff.rfl
@[simp] theorem wpO_bind {α β : Type} {f : α → Option β} {o : Option α} {Q : β → Prop} : wpO (o.bind f) Q ↔ wpO o fun a => wpO (f a) Q := by cases o <;> exact Iff.rfl
theorem wpO_ite {α : Type} {c : Prop} [Decidable c] {a b : Option α} {Q : α → Prop} : wpO (if c then a else b) Q ↔ if c then wpO a Q else wpO b Q := by split <;> exact Iff.rfl
theorem wpO_of {α : Type} {o : Option α} {a : α} {Q : α → Prop} (h : o = some a) (q : Q a) : wpO o Q := by rw [h]; exact q
@[simp] theorem wpO_iteN {α : Type} {c : Prop} [Decidable c] {a : α} {Q : α → Prop} : wpO (if c then some a else none) Q ↔ c ∧ Q a := by by_cases h : c <;> simp [h]
variable {QP : D × Store → Prop}
@[simp] theorem wpO_mulD : wpO (mulD (.int i) (.int j) η) QP ↔ mulOk i j ∧ QP (.int (i * j), η) := by
  by_cases h : mulOk i j
  · rw [mulD_int h]; simp [h]
  · have e : mulD (.int i) (.int j) η = none := by unfold mulD; exact if_neg h
    rw [e]; simp [h]
@[simp] theorem wpO_fdivD : wpO (fdivD (.int i) (.int j) η) QP ↔ divOk j ∧ QP (.int (i / j), η) := by
  by_cases h : divOk j
  · have e : fdivD (.int i) (.int j) η = some (.int (i / j), η) := by unfold fdivD; exact if_pos h
    rw [e]; simp [h]
  · have e : fdivD (.int i) (.int j) η = none := by unfold fdivD; exact if_neg h
    rw [e]; simp [h]
@[simp] theorem wpO_modD : wpO (modD (.int i) (.int j) η) QP ↔ 0 < j ∧ QP (.int (i % j), η) := by
  have e : modD (.int i) (.int j) η = if 0 < j then some (.int (i % j), η) else none := rfl
  rw [e, wpO_iteN]
@[simp] theorem wpO_powD : wpO (powD (.int i) (.int j) η) QP ↔ (0 ≤ j ∧ j ≤ 1000000 ∧ i.natAbs < 2 ^ 64) ∧ QP (.int (i ^ j.toNat), η) := by
  have e : powD (.int i) (.int j) η = if 0 ≤ j ∧ j ≤ 1000000 ∧ i.natAbs < 2 ^ 64 then some (.int (i ^ j.toNat), η) else none := rfl
  rw [e, wpO_iteN]
@[simp] theorem mulOk_r (h : -18446744073709551616 < j) (h2 : j < 18446744073709551616) : mulOk i j := .inl (.inr ⟨h, h2⟩)
@[simp] theorem mulOk_l (h : -18446744073709551616 < i) (h2 : i < 18446744073709551616) : mulOk i j := .inl (.inl ⟨h, h2⟩)
@[simp] theorem divOk_lit (h : 0 < j) (h2 : j < 1073741824) : divOk j := ⟨h, .inl h2⟩
@[simp] theorem szle {n : Nat} (h : n ≤ 1000000) : n ≤ sizeLine := Nat.le_trans h (by decide)
/-- xs[i], i from the front -/
theorem atI_nat {n : Nat} {α : Type} {xs : List α} (h : n < xs.length) : atI xs (n : Int) = some xs[n] := by
  unfold atI ixN
  rw [if_pos (by omega), if_pos (by omega)]
  simp [List.getElem?_eq_getElem h]
theorem atI_pos {α : Type} {xs : List α} {i : Int} (h0 : 0 ≤ i) (h : i < xs.length) : atI xs i = xs[i.toNat]? := by
  unfold atI ixN
  rw [if_pos h0, if_pos h]; rfl
theorem atI_neg {α : Type} {xs : List α} {i : Int} (h0 : i < 0) (h : -(xs.length : Int) ≤ i) : atI xs i = xs[(i + xs.length).toNat]? := by
  unfold atI ixN
  rw [if_neg (by omega), if_pos h]; rfl
@[simp] theorem atI_zero {α : Type} {x : α} {xs : List α} : atI (x :: xs) 0 = some x := by
  unfold atI ixN
  rw [if_pos (by omega), if_pos (by simp)]; rfl
@[simp] theorem atI_one {α : Type} {x y : α} {xs : List α} : atI (x :: y :: xs) 1 = some y := by
  unfold atI ixN
  rw [if_pos (by omega), if_pos (by simp; omega)]; rfl
@[simp] theorem atI_two {α : Type} {x y z : α} {xs : List α} : atI (x :: y :: z :: xs) 2 = some z := by
  unfold atI ixN
  rw [if_pos (by omega), if_pos (by simp; omega)]; rfl
theorem atI_last {α : Type} {xs : List α} (h : xs ≠ []) : atI xs (-1) = some (xs.getLast h) := by
  have hl : 0 < xs.length := List.length_pos_iff.mpr h
  rw [atI_neg (by omega) (by omega)]
  have e : ((-1 : Int) + xs.length).toNat = xs.length - 1 := by omega
  rw [e, List.getLast_eq_getElem, List.getElem?_eq_getElem (by omega)]
@[simp] theorem cutL_from1 : cutL xs (some 1) none = xs.tail := by
  unfold cutL
  rw [HT.sIx_none]
  have e : HT.sIx xs.length 0 (some 1) = min 1 xs.length := HT.sIx_nat _ _ 1
  rw [e]
  cases xs with
  | nil => rfl
  | cons x xs => simp
theorem cutL_last1 : cutL xs (some (-1)) none = xs.drop (xs.length - 1) := by
  unfold cutL
  rw [HT.sIx_none]
  have e : HT.sIx xs.length 0 (some (-1)) = xs.length - 1 := by
    show (if (-1 : Int) < 0 then ((-1 : Int) + (xs.length : Int)).toNat else min (-1 : Int).toNat xs.length) = _
    rw [if_pos (by omega)]; omega
  rw [e, List.take_of_length_le (by simp)]
theorem cutL_but1 : cutL xs none (some (-1)) = xs.take (xs.length - 1) := by
  unfold cutL
  rw [HT.sIx_none]
  have e : HT.sIx xs.length xs.length (some (-1)) = xs.length - 1 := by
    show (if (-1 : Int) < 0 then ((-1 : Int) + (xs.length : Int)).toNat else min (-1 : Int).toNat xs.length) = _
    rw [if_pos (by omega)]; omega
  rw [e]; simp
@[simp] theorem boolsOf_nil : boolsOf [] = some [] := rfl
@[simp] theorem boolsOf_cons {ds : List D} : boolsOf (.bl b :: ds) = (boolsOf ds).map (b :: ·) := rfl
@[simp] theorem tyNm_bool : tyNm "bool" = some .bool := rfl
@[simp] theorem tyNm_int : tyNm "int" = some .int := rfl
@[simp] theorem tyNm_str : tyNm "str" = some .str := rfl
@[simp] theorem tyNm_tuple : tyNm "tuple" = some .tuple := rfl
@[simp] theorem tyNm_list : tyNm "list" = some .list := rfl
@[simp] theorem tyNm_dict : tyNm "dict" = some .dict := rfl
@[simp] theorem tyB_eq (a b : Ty) : tyB a b = (decide (a = b) || (decide (a = .bool) && decide (b = .int))) := by cases a <;> cases b <;> rfl
@[simp] theorem isi_non {n : String} : isiD [.non , .ty n] η = (tyNm n).map fun b => (.bl (tyB .non b), η) := by
  show (match tyNm n with | some b => some (D.bl (tyB .non b), η) | none => none) = _
  cases tyNm n <;> rfl
@[simp] theorem isi_bl {n : String} : isiD [.bl b, .ty n] η = (tyNm n).map fun b => (.bl (tyB .bool b), η) := by
  show (match tyNm n with | some b => some (D.bl (tyB .bool b), η) | none => none) = _
  cases tyNm n <;> rfl
@[simp] theorem isi_int {n : String} : isiD [.int i, .ty n] η = (tyNm n).map fun b => (.bl (tyB .int b), η) := by
  show (match tyNm n with | some b => some (D.bl (tyB .int b), η) | none => none) = _
  cases tyNm n <;> rfl
@[simp] theorem isi_tup {n : String} : isiD [.tup xs, .ty n] η = (tyNm n).map fun b => (.bl (tyB .tuple b), η) := by
  show (match tyNm n with | some b => some (D.bl (tyB .tuple b), η) | none => none) = _
  cases tyNm n <;> rfl
@[simp] theorem isi_lst {n : String} : isiD [.lst xs, .ty n] η = (tyNm n).map fun b => (.bl (tyB .list b), η) := by
  show (match tyNm n with | some b => some (D.bl (tyB .list b), η) | none => none) = _
  cases tyNm n <;> rfl
@[simp] theorem isi_scr {n : String} : isiD [.scr xs, .ty n] η = (tyNm n).map fun b => (.bl (tyB .list b), η) := by
  show (match tyNm n with | some b => some (D.bl (tyB .list b), η) | none => none) = _
  cases tyNm n <;> rfl
@[simp] theorem isi_str {x : Str} {n : String} : isiD [.str x, .ty n] η = (tyNm n).map fun b => (.bl (tyB .str b), η) := by
  show (match tyNm n with | some b => some (D.bl (tyB .str b), η) | none => none) = _
  cases tyNm n <;> rfl
theorem isi_of {d : D} {a b : Ty} {n : String} (h : tyOf d η = some a) (h2 : tyNm n = some b) : isiD [d, .ty n] η = some (.bl (tyB a b), η) := by
  show (match tyOf d η with | some a => (match tyNm n with | some b => some (D.bl (tyB a b), η) | none => none) | none => none) = _
  rw [h]; dsimp only; rw [h2]
/-! iterables -/
variable {ρ : Env} {f : FE} {fA : FA} {QS : Src → Store → Prop} {E : Ex → Store → Prop}
@[simp] theorem w_iVal : wpR (iVal f ρ η) QS E ↔ wpR (f ρ η) (fun d η => wpO (srcOf d η) fun s => QS s η) E := by
  unfold iVal; rw [wpR_bind]
  refine wpR_congr fun d η => ?_
  cases h : srcOf d η <;> exact Iff.rfl
@[simp] theorem srcOf_tup : srcOf (.tup xs) η = some (.val xs) := rfl
@[simp] theorem srcOf_lst : srcOf (.lst xs) η = some (.val xs) := rfl
@[simp] theorem srcOf_scr : srcOf (.scr xs) η = some (.val xs) := rfl
@[simp] theorem sqOf_tup : sqOf (.tup xs) η = some (.val xs) := rfl
@[simp] theorem sqOf_lst : sqOf (.lst xs) η = some (.val xs) := rfl
def twoD (ds : List D) : Option (D × D) := match ds with
  | [x, y] => some (x, y)
  | _ => none
@[simp] theorem twoD_two {x y : D} : twoD [x, y] = some (x, y) := rfl
def oneD (ds : List D) : Option D := match ds with
  | [x] => some x
  | _ => none
@[simp] theorem oneD_one {x : D} : oneD [x] = some x := rfl
@[simp] theorem w_iZip : wpR (iZip fA ρ η) QS E ↔ wpR (fA ρ η) (fun ds η => wpO (twoD ds) fun p => wpO (sqOf p.1 η) fun s1 => wpO (sqOf p.2 η) fun s2 => QS (zipS s1 s2) η) E := by
  unfold iZip; rw [wpR_bind]
  refine wpR_congr fun ds η => ?_
  match ds with
  | [] => exact Iff.rfl
  | [x] => exact Iff.rfl
  | [x, y] =>
    dsimp only [twoD]
    cases h : sqOf x η with
    | none => simp [h]
    | some s1 => cases h2 : sqOf y η <;> simp [h, h2]
  | x :: y :: z :: r => exact Iff.rfl
@[simp] theorem zipS_val : zipS (.val xs) (.val ys) = .val (List.zipWith (fun x y => .tup [x, y]) xs ys) := rfl
@[simp] theorem w_iEnum : wpR (iEnumS fA ρ η) QS E ↔ wpR (fA ρ η) (fun ds η => wpO (oneD ds) fun x => wpO (sqOf x η) fun s1 => QS (enumS s1) η) E := by
  unfold iEnumS; rw [wpR_bind]
  refine wpR_congr fun ds η => ?_
  match ds with
  | [] => exact Iff.rfl
  | [x] =>
    dsimp only [oneD]
    cases h : sqOf x η <;> simp [h]
  | x :: y :: r => exact Iff.rfl
@[simp] theorem enumS_val : enumS (.val xs) = .val (xs.zipIdx.map fun q => .tup [.int (q.2 : Nat), q.1]) := rfl
@[simp] theorem w_iRng1 : wpR (iRng1 fA ρ η) QS E ↔ wpR (fA ρ η) (fun ds η => wpO (oneD ds) fun x => wpO (isI x) fun j => big62 j ∧ QS (.val (rng 0 j.toNat)) η) E := by
  unfold iRng1; rw [wpR_bind]
  refine wpR_congr fun ds η => ?_
  match ds with
  | [] => exact Iff.rfl
  | [x] =>
    cases x with
    | int j =>
      show wpR (if big62 j then _ else _) QS E ↔ _
      by_cases h : big62 j
      · rw [if_pos h]; simp [h]
      · rw [if_neg h]; simp [h]
    | _ => exact Iff.rfl
  | x :: y :: r => cases x <;> exact Iff.rfl
@[simp] theorem w_iRng2 : wpR (iRng2 fA ρ η) QS E ↔ wpR (fA ρ η) (fun ds η => wpO (twoD ds) fun p => wpO (isI p.1) fun i => wpO (isI p.2) fun j => (big62 i ∧ big62 j) ∧ QS (.val (rng i (j - i).toNat)) η) E := by
  unfold iRng2; rw [wpR_bind]
  refine wpR_congr fun ds η => ?_
  match ds with
  | [] => exact Iff.rfl
  | [x] => cases x <;> exact Iff.rfl
  | [x, y] =>
    cases x with
    | int i =>
      cases y with
      | int j =>
        show wpR (if big62 i ∧ big62 j then _ else _) QS E ↔ _
        by_cases h : big62 i ∧ big62 j
        · rw [if_pos h]; simp [h]
        · rw [if_neg h]; simp [h]
      | _ => exact Iff.rfl
    | _ => exact Iff.rfl
  | x :: y :: z :: r => cases x <;> cases y <;> exact Iff.rfl
end
end Dn
/-! Dn part 15: the cup of draws; things told by values. -/
namespace Dn
open PySem PySem.Spec PyProof.Rows L2
section
variable {η η1 η2 η3 : Store} {k i j : Nat} {xs ys : List D} {v : D} {n : Int}
theorem ixD_obj (h : η[k]? = some (.lst xs)) : ixD (.obj k) (.int n) η = (atI xs n).map (·, η) := by
  show (match seqL (.obj k) η with | some xs => (atI xs n).map (·, η) | none => none) = _
  have e : seqL (.obj k) η = some xs := by unfold seqL; dsimp only; rw [h]
  rw [e]
theorem setD_obj (h : η[k]? = some (.lst xs)) {m : Nat} (hm : ixN xs.length n = some m) : setD (.obj k) (.int n) v η = some (η.set k (.lst (xs.set m v))) := by
  unfold setD
  dsimp only
  rw [h]; dsimp only; rw [hm]
theorem lenD_obj (h : η[k]? = some (.lst xs)) : lenD [.obj k] η = some (.int xs.length, η) := by
  show (match seqL (.obj k) η with | some xs => some (D.int xs.length, η) | none => none) = _
  have e : seqL (.obj k) η = some xs := by unfold seqL; dsimp only; rw [h]
  rw [e]
theorem tyM_obj (h : η[k]? = some (.lst xs)) : tyM "list" (.obj k) η = true := by
  unfold tyM; dsimp only; rw [h]; rfl
theorem appD_obj (h : η[k]? = some (.lst xs)) (hl : xs.length < sizeLine) : appD (.obj k) [v] η = some (.non, η.set k (.lst (xs ++ [v]))) := by
  unfold appD
  dsimp only
  have e : objL (.obj k) η = some (k, xs) := by unfold objL; dsimp only; rw [h]
  rw [e]
  exact if_pos hl
theorem tupleD_obj (h : η[k]? = some (.lst xs)) : tupleD [.obj k] η = some (.tup xs, η) := by
  show (match seqL (.obj k) η with | some xs => some (D.tup xs, η) | none => none) = _
  have e : seqL (.obj k) η = some xs := by unfold seqL; dsimp only; rw [h]
  rw [e]
theorem get_set (h : η[k]? = some v') {o : O} : (η.set k o)[k]? = some o := by
  have := (List.getElem?_eq_some_iff.mp h).1
  simp [this]
@[simp] theorem seqL_lst : seqL (.lst xs) η = some xs := rfl
/-- what a trimmed call comes to -/
theorem trim_ok {F : FF} {ds : List D} {d : D} {η l : Store} (h : F ds η = .ok d (η ++ l)) (hl : D.low η.length d = true) : trimF F ds η = .ok d η := by
  have hk : keepS η (η ++ l) := keepS_app _ _
  have hc : cutD η.length (η ++ l) d = some d := by
    cases d with
    | obj i =>
      have hi : i < η.length := by simpa [D.low] using hl
      unfold cutD; exact if_pos hi
    | _ => unfold cutD; exact if_pos hl
  unfold trimF
  rw [h]
  unfold trimR
  dsimp only
  rw [if_pos hk, hc]
  simp
theorem lows_int {n : Nat} : ∀ l : List Int, D.lows n (l.map D.int) = true
  | [] => rfl
  | _ :: l => lows_int l
theorem low_tup {n : Nat} {l : List Int} : D.low n (.tup (l.map D.int)) = true := lows_int l
/-- a cup of draws: two numbers -/
def Cup (k : Nat) (η : Store) : Prop := ∃ a b : Int, 0 ≤ a ∧ 0 ≤ b ∧ η[k]? = some (.lst [.int a, .int b])
/-- all but one thing stands -/
structure Keep (k : Nat) (η η' : Store) : Prop where
  le : η.length ≤ η'.length
  eq : ∀ j, j < η.length → j ≠ k → η'[j]? = η[j]?
theorem Keep.refl : Keep k η η := ⟨Nat.le_refl _, fun _ _ _ => rfl⟩
theorem Keep.trans (a : Keep k η1 η2) (b : Keep k η2 η3) : Keep k η1 η3 := ⟨Nat.le_trans a.le b.le, fun j h n => (b.eq j (Nat.lt_of_lt_of_le h a.le) n).trans (a.eq j h n)⟩
theorem Keep.set {o : O} : Keep k η (η.set k o) := ⟨by simp, fun j _ n => List.getElem?_set_ne (Ne.symm n)⟩
theorem Keep.app {l : List O} : Keep k η (η ++ l) := ⟨by simp, fun j h _ => List.getElem?_append_left h⟩
theorem Cup.app {l : List O} (c : Cup k η) : Cup k (η ++ l) := by
  obtain ⟨a, b, ha, hb, e⟩ := c
  exact ⟨a, b, ha, hb, by rw [List.getElem?_append_left (List.getElem?_eq_some_iff.mp e).1]; exact e⟩
theorem Cup.lt (c : Cup k η) : k < η.length := by
  obtain ⟨a, b, ha, hb, e⟩ := c
  exact (List.getElem?_eq_some_iff.mp e).1
theorem Cup.set {a b : Int} (c : Cup k η) (ha : 0 ≤ a) (hb : 0 ≤ b) : Cup k (η.set k (.lst [.int a, .int b])) :=
  ⟨a, b, ha, hb, by simp [c.lt]⟩
theorem Cup.keep {j : Nat} (c : Cup k η) (h : Keep j η η1) (n : j ≠ k) : Cup k η1 := by
  obtain ⟨a, b, ha, hb, e⟩ := c
  exact ⟨a, b, ha, hb, by rw [h.eq k (List.getElem?_eq_some_iff.mp e).1 (Ne.symm n)]; exact e⟩
end
/-- what a def of draws does: from the cup, an integer below many -/
def RollOk (F : FF) : Prop := ∀ (k : Nat) (η : Store) (m : Int), Cup k η → 0 < m → m < 1073741824 → ∃ (r : Int) (η' : Store), F [.obj k, .int m] η = .ok (.int r) η' ∧ 0 ≤ r ∧ r < m ∧ Cup k η' ∧ Keep k η η'
theorem RollOk.wp {F : FF} (h : RollOk F) {k : Nat} {η : Store} {m : Int} {Q : D → Store → Prop} {E : Ex → Store → Prop} (c : Cup k η) (h0 : 0 < m) (h1 : m < 1073741824) (q : ∀ r η', 0 ≤ r → r < m → Cup k η' → Keep k η η' → Q (.int r) η') : wpR (F [.obj k, .int m] η) Q E := by
  obtain ⟨r, η', e, h2, h3, c2, kp⟩ := h k η m c h0 h1
  rw [e]; exact q r η' h2 h3 c2 kp
/-- one of several things -/
def SomeOk (F : FF) : Prop := ∀ (k : Nat) (η : Store) (xs : List D), Cup k η → 0 < xs.length → xs.length < 1000000000 → ∃ (i : Nat) (x : D) (η' : Store), F [.obj k, .lst xs] η = .ok x η' ∧ xs[i]? = some x ∧ Cup k η' ∧ Keep k η η'
theorem SomeOk.wp {F : FF} (h : SomeOk F) {k : Nat} {η : Store} {xs : List D} {Q : D → Store → Prop} {E : Ex → Store → Prop} (c : Cup k η) (h0 : 0 < xs.length) (h1 : xs.length < 1000000000) (q : ∀ x η', x ∈ xs → Cup k η' → Keep k η η' → Q x η') : wpR (F [.obj k, .lst xs] η) Q E := by
  obtain ⟨i, x, η', e, h2, c2, kp⟩ := h k η xs c h0 h1
  rw [e]; exact q x η' (List.mem_of_getElem? h2) c2 kp
/-- the first cup -/
def CupOk (F : FF) : Prop := ∀ ns : List Int, ns.length ≤ 63 → ∃ (η : Store), F [.scr (ns.map D.int)] [] = .ok (.obj 0) η ∧ Cup 0 η
/-- values with a type that isinstance serves -/
def D.typ : D → Bool
  | .obj _ => false
  | .gl _ => false
  | .ty _ => false
  | .adr _ => false
  | _ => true
theorem typ_ty {d : D} (h : d.typ = true) (η : Store) : ∃ a, tyOf d η = some a := by
  cases d <;> first | exact ⟨_, rfl⟩ | cases h
/-- what _law_same likes: plain values, tuples of such -/
def D.sm : Nat → D → Bool
  | _, .non => true
  | _, .bl _ => true
  | _, .int _ => true
  | _, .str x => PyData.canLay0 (.str x)
  | n + 1, .tup xs => xs.all (D.sm n) && decide (xs.length ≤ 1000000)
  | _, _ => false
/-- it says of a value and itself that they are alike -/
def SameOk (F : Nat → FF) : Prop := ∀ (n : Nat) (d : D) (η : Store), D.sm n d = true → F (n + 1) [d, d] η = .ok (.bl true) η
theorem eqD_str {x : Str} {η : Store} (h : PyData.canLay0 (.str x) = true) : eqD (.str x) (.str x) η = some (.bl true, η) := by
  rw [eqD_pl (by simpa [D.vw, D.pl] using h) (by simpa [D.vw, D.pl] using h)]
  simp [D.vw, D.eq]
theorem ok_of_wpR1 {α : Type} {r : R α} {d : α} {η : Store} (h : wpR r (fun a η' => a = d ∧ η' = η) (fun _ _ => False)) : r = .ok d η := by
  obtain ⟨a, η', e, rfl, rfl⟩ := ok_of_wpR h
  exact e
theorem rng_map {lo : Int} {n : Nat} {g : D → D} : (rng lo n).map g = (List.range n).map fun i => g (.int (lo + (i : Nat))) := by
  unfold rng; rw [List.map_map]; rfl
section
variable {α : Type} {b : TGt} {s : FT} {te : FE} {ρ : Env} {η : Store}
theorem cmp_of (f g : α → D) (l : List α) (h : ∀ x ∈ l, ∃ ρ1, b (f x) ρ = some ρ1 ∧ s ρ1 η = .ok true η ∧ te ρ1 η = .ok (g x) η) : cmp b s te ρ (l.map f) η = .ok (l.map g) η := by
  induction l with
  | nil => rfl
  | cons x l ih =>
    obtain ⟨ρ1, e1, e2, e3⟩ := h x List.mem_cons_self
    have ih := ih fun y hy => h y (List.mem_cons_of_mem _ hy)
    rw [List.map_cons, List.map_cons]
    unfold cmp
    rw [e1]; dsimp only
    rw [e2, R.bind_ok, if_pos rfl, e3, R.bind_ok, ih, R.bind_ok]
theorem cmp_off (f g : α → D) (p : α → Bool) (l : List α) (h : ∀ x ∈ l, ∃ ρ1, b (f x) ρ = some ρ1 ∧ s ρ1 η = .ok (p x) η ∧ (p x = true → te ρ1 η = .ok (g x) η)) : cmp b s te ρ (l.map f) η = .ok ((l.filter p).map g) η := by
  induction l with
  | nil => rfl
  | cons x l ih =>
    obtain ⟨ρ1, e1, e2, e3⟩ := h x List.mem_cons_self
    have ih := ih fun y hy => h y (List.mem_cons_of_mem _ hy)
    rw [List.map_cons]
    unfold cmp
    rw [e1]; dsimp only
    rw [e2, R.bind_ok]
    cases hp : p x with
    | true => rw [if_pos rfl, e3 hp, R.bind_ok, ih, R.bind_ok, List.filter_cons_of_pos hp]; rfl
    | false => rw [if_neg (by simp), ih, List.filter_cons_of_neg (by simp [hp])]
theorem boolsOf_map (f : α → Bool) : ∀ l : List α, boolsOf (l.map fun x => .bl (f x)) = some (l.map f)
  | [] => rfl
  | x :: l => by rw [List.map_cons, boolsOf_cons, boolsOf_map f l]; rfl
theorem intsOf_map (f : α → Int) : ∀ l : List α, intsOf (l.map fun x => .int (f x)) = some (l.map f)
  | [] => rfl
  | x :: l => by
    rw [List.map_cons]
    show (intsOf (l.map fun x => .int (f x))).map _ = _
    rw [intsOf_map f l]; rfl
@[simp] theorem allD_map (f : α → Bool) (l : List α) : allD [.lst (l.map fun x => .bl (f x))] η = some (.bl (l.all f), η) := by
  rw [allD_lst, boolsOf_map, Option.map_some, List.all_map]; rfl
@[simp] theorem anyD_map (f : α → Bool) (l : List α) : anyD [.lst (l.map fun x => .bl (f x))] η = some (.bl (l.any f), η) := by
  rw [anyD_lst, boolsOf_map, Option.map_some, List.any_map]; rfl
@[simp] theorem sumD_map (f : α → Int) (l : List α) : sumD [.lst (l.map fun x => .int (f x))] η = some (.int (l.map f).sum, η) := by
  rw [sumD_lst, intsOf_map, Option.map_some]
theorem zip_maps {β : Type} (f : α → D) (g : β → D) : ∀ (l : List α) (m : List β), List.zipWith (fun x y => D.tup [x, y]) (l.map f) (m.map g) = (l.zip m).map fun p => .tup [f p.1, g p.2]
  | [], _ => by simp
  | _ :: _, [] => by simp
  | x :: l, y :: m => by
    rw [List.map_cons, List.map_cons, List.zipWith_cons_cons, zip_maps f g l m]; rfl
end
theorem zw_zip {α β : Type} (f : α → D) (g : β → D) (l : List α) (m : List β) : List.zipWith (fun a b => D.tup [f a, g b]) l m = (l.zip m).map fun p => .tup [f p.1, g p.2] := by
  rw [← zip_maps, List.zipWith_map]
theorem mem_rng {lo : Int} {n : Nat} {x : D} : x ∈ rng lo n ↔ ∃ i : Nat, i < n ∧ x = .int (lo + (i : Nat)) := by
  unfold rng
  simp only [List.mem_map, List.mem_range]
  exact ⟨fun ⟨i, h, e⟩ => ⟨i, h, e.symm⟩, fun ⟨i, h, e⟩ => ⟨i, h, e.symm⟩⟩
theorem rng_length {lo : Int} {n : Nat} : (rng lo n).length = n := by unfold rng; simp
theorem map_const {α : Type} {d : D} : ∀ l : List α, l.map (fun _ => d) = List.replicate l.length d
  | [] => rfl
  | _ :: l => by rw [List.map_cons, map_const l]; rfl
theorem boolsOf_true : ∀ n : Nat, boolsOf (List.replicate n (.bl true)) = some (List.replicate n true)
  | 0 => rfl
  | n + 1 => by rw [List.replicate_succ, boolsOf_cons, boolsOf_true n]; rfl
end Dn
/-! Dn part 16: sorted of a dict of pairs; lists of whole numbers. -/
namespace Dn
open PySem PySem.Spec PyProof.Rows L2
/-- strictly rising -/
def rise : List Int → Bool
  | [] => true
  | [_] => true
  | x :: y :: r => decide (x < y) && rise (y :: r)
theorem rise_iff : ∀ {l : List Int}, rise l = true ↔ l.Pairwise (· < ·)
  | [] => by simp [rise]
  | [x] => by simp [rise]
  | x :: y :: r => by
    have ih := rise_iff (l := y :: r)
    show (decide (x < y) && rise (y :: r)) = true ↔ _
    rw [Bool.and_eq_true_iff, ih, List.pairwise_cons (a := x)]
    constructor
    · rintro ⟨h1, h2⟩
      have h1' : x < y := of_decide_eq_true h1
      refine ⟨fun z hz => ?_, h2⟩
      rcases List.mem_cons.mp hz with rfl | hz
      · exact h1'
      · exact Int.lt_trans h1' ((List.pairwise_cons.mp h2).1 z hz)
    · rintro ⟨h1, h2⟩
      exact ⟨decide_eq_true (h1 y List.mem_cons_self), h2⟩
theorem rise_get {ns : List Int} {i : Nat} (hr : rise ns = true) (h : i + 1 < ns.length) : ns[i] < ns[i + 1] :=
  List.pairwise_iff_getElem.mp (rise_iff.mp hr) i (i + 1) (by omega) h (by omega)
theorem rise_zip : ∀ ns : List Int, rise ns = (ns.zip ns.tail).all fun p => decide (p.1 < p.2)
  | [] => rfl
  | [_] => rfl
  | x :: y :: r => by
    have ih := rise_zip (y :: r)
    show (decide (x < y) && rise (y :: r)) = _
    rw [ih]; rfl
/-- the different ones, in the order of their first place -/
def ddI (acc : List Int) : List Int → List Int
  | [] => acc
  | n :: r => ddI (if n ∈ acc then acc else acc ++ [n]) r
theorem ddI_nodup : ∀ (ns acc : List Int), acc.Nodup → (ddI acc ns).Nodup
  | [], _, h => h
  | n :: r, acc, h => by
    refine ddI_nodup r _ ?_
    split
    · exact h
    · rename_i hn
      exact List.nodup_append.mpr ⟨h, by simp, fun a ha b hb => by
        have : b = n := by simpa using hb
        subst this
        intro e; subst e; exact hn ha⟩
theorem ddI_mem : ∀ (ns acc : List Int) (x : Int), x ∈ ddI acc ns ↔ x ∈ acc ∨ x ∈ ns
  | [], _, x => by simp [ddI]
  | n :: r, acc, x => by
    show x ∈ ddI (if n ∈ acc then acc else acc ++ [n]) r ↔ _
    rw [ddI_mem r]
    split
    · rename_i h
      constructor
      · rintro (a | a)
        · exact .inl a
        · exact .inr (List.mem_cons_of_mem _ a)
      · rintro (a | a)
        · exact .inl a
        · rcases List.mem_cons.mp a with rfl | a
          · exact .inl h
          · exact .inr a
    · simp [or_assoc]
theorem ddI_len : ∀ (ns acc : List Int), (ddI acc ns).length ≤ acc.length + ns.length
  | [], _ => by simp [ddI]
  | n :: r, acc => by
    refine Nat.le_trans (ddI_len r _) ?_
    split <;> simp <;> omega
/-- sorted, each once -/
def sortU (ns : List Int) : List Int := sortI (ddI [] ns)
theorem mem_sortI {x : Int} {l : List Int} : x ∈ sortI l ↔ x ∈ l := (sortI_perm l).mem_iff
theorem mem_sortU {x : Int} {ns : List Int} : x ∈ sortU ns ↔ x ∈ ns := by
  unfold sortU; rw [mem_sortI, ddI_mem]; simp
theorem len_sortI {l : List Int} : (sortI l).length = l.length := (sortI_perm l).length_eq
theorem len_sortU {ns : List Int} : (sortU ns).length ≤ ns.length := by
  unfold sortU; rw [len_sortI]; simpa using ddI_len ns []
theorem rise_sortU {ns : List Int} : rise (sortU ns) = true := by
  have h1 : (sortU ns).Nodup := (sortI_perm _).nodup_iff.mpr (ddI_nodup ns [] List.nodup_nil)
  have h2 : (sortU ns).Pairwise (· ≤ ·) := sortI_sorted _
  refine rise_iff.mpr ?_
  exact List.Pairwise.imp₂ (fun a b h n => by omega) h2 (List.nodup_iff_pairwise_ne.mp h1)
theorem keys_putD {kvs : List (Key × D)} {acc : List Int} {n : Int} {v : D} (h : kvs.map (·.1) = acc.map Sum.inl) : (putD kvs (.inl n) v).map (·.1) = (if n ∈ acc then acc else acc ++ [n]).map Sum.inl := by
  have e : (kvs.any fun kv => decide (kv.1 = (.inl n : Key))) = decide (n ∈ acc) := by
    have e1 : (kvs.any fun kv => decide (kv.1 = (.inl n : Key))) = (kvs.map (·.1)).any fun k => decide (k = (.inl n : Key)) := by rw [List.any_map]; rfl
    rw [e1, h, List.any_map, Bool.eq_iff_iff]
    simp
  unfold putD
  rw [e]
  by_cases hn : n ∈ acc
  · rw [if_pos (by simpa using hn), if_pos hn, ← h, List.map_map]
    refine List.map_congr_left fun kv _ => ?_
    simp only [Function.comp]
    split <;> rfl
  · rw [if_neg (by simpa using hn), if_neg hn, List.map_append, h]
    simp
theorem keys_mergeD : ∀ {ns : List Int} {v : D} {kvs : List (Key × D)} {acc : List Int}, kvs.map (·.1) = acc.map Sum.inl → (mergeD kvs (ns.map fun n => (.inl n, v))).map (·.1) = (ddI acc ns).map Sum.inl
  | [], _, _, _, h => h
  | n :: r, v, kvs, acc, h => by
    show (mergeD (putD kvs (.inl n) v) (r.map fun n => (.inl n, v))).map (·.1) = _
    rw [keys_mergeD (keys_putD h)]; rfl
theorem intKeys_map : ∀ l : List Int, intKeys (l.map Sum.inl) = some l
  | [] => rfl
  | x :: l => by
    show (intKeys (l.map Sum.inl)).map (x :: ·) = _
    rw [intKeys_map l]; rfl
theorem pairsD_map (v : D) : ∀ ns : List Int, pairsD (ns.map fun n => .tup [.int n, v]) = some (ns.map fun n => (.inl n, v))
  | [] => rfl
  | n :: r => by
    show (pairD (.tup [.int n, v])).bind _ = _
    show ((pairsD (r.map fun n => .tup [.int n, v])).map _) = _
    rw [pairsD_map v r]; rfl
section
variable {η : Store} {ns : List Int} {v : D}
theorem dictD_map : dictD [.lst (ns.map fun n => .tup [.int n, v])] η = some (.obj η.length, η ++ [.dK (mergeD [] (ns.map fun n => (.inl n, v)))]) := by
  unfold dictD
  dsimp only [seqL]
  rw [pairsD_map]
theorem sortedD_dict (h : ns.length < 64) : sortedD [.obj η.length] (η ++ [.dK (mergeD [] (ns.map fun n => (.inl n, v)))]) = some (.lst ((sortU ns).map D.int), η ++ [.dK (mergeD [] (ns.map fun n => (.inl n, v)))]) := by
  have e : (η ++ [.dK (mergeD [] (ns.map fun n => (.inl n, v)))])[η.length]? = some (.dK (mergeD [] (ns.map fun n => (.inl n, v)))) := by simp
  unfold sortedD
  dsimp only [seqL]
  rw [e]
  dsimp only
  rw [keys_mergeD (acc := []) rfl, intKeys_map]
  dsimp only
  rw [if_pos (by have := ddI_len ns []; simp at this; omega)]
  rfl
theorem sortedD_lst : sortedD [.lst (ns.map D.int)] η = some (.lst ((sortI ns).map D.int), η) := by
  unfold sortedD
  dsimp only [seqL]
  rw [ints_map]; rfl
end
section
variable {α : Type} {xs : List α} {x : α} {ds : List D} {d : D}
theorem atI_snoc : atI (xs ++ [x]) (-1) = some x := by rw [atI_last (by simp)]; simp
theorem cutL_snoc_but : cutL (ds ++ [d]) none (some (-1)) = ds := by rw [cutL_but1]; simp
theorem cutL_snoc_last : cutL (ds ++ [d]) (some (-1)) none = [d] := by rw [cutL_last1]; simp
end
theorem pls_int {α : Type} {n : Nat} (f : α → Int) : ∀ l : List α, D.pls n (l.map fun x => .int (f x)) = true
  | [] => rfl
  | x :: l => by
    show (D.pl n (.int (f x)) && D.pls n (l.map fun x => .int (f x))) = true
    rw [pls_int f l]
    cases n <;> rfl
theorem eqD_nilI {α : Type} (f : α → Int) (l : List α) {η : Store} : eqD (.lst (l.map fun x => .int (f x))) (.lst []) η = some (.bl l.isEmpty, η) := by
  have h1 : D.pl 60 (D.vw η (.lst (l.map fun x => .int (f x)))) = true := pls_int f l
  rw [eqD_pl h1 rfl]
  cases l <;> rfl
@[simp] theorem neD_nil {η : Store} : neD (.lst []) (.lst []) η = some (.bl false, η) := by rw [neD_pl (by rfl) (by rfl)]; rfl
@[simp] theorem eqD_nil {η : Store} : eqD (.lst []) (.lst []) η = some (.bl true, η) := by rw [eqD_pl (by rfl) (by rfl)]; rfl
/-- the last one that passes, by places -/
theorem filter_places {α : Type} (d : α) (l : List α) (p : α → Bool) : l.filter p = ((List.range l.length).filter fun i => p (l.getD i d)).map fun i => l.getD i d := by
  have e : l = (List.range l.length).map fun i => l.getD i d := by
    refine List.ext_getElem (by simp) fun i h1 h2 => ?_
    simp [h1]
  conv => lhs; rw [e]
  rw [List.filter_map]; rfl
end Dn
/-! Dn part 17: three names at once. -/
namespace Dn
open PySem PySem.Spec PyProof.Rows L2
section
variable {X : Cx} {W : WX} {K : PySem.W.Frag} {w w1 w' : Wd} {σ : L2.St} {H H1 H' : Hp} {ρ : Env} {η η1 : Store} {fa fb fc f : FE} {a b c e : Expr} {es : List Expr} {pos p : Pos} {fA : FA}
/-- a, b, c = x, y, z: three different local names -/
def sPar3 (i j l : Nat) (fa fb fc : FE) : FS := fun ρ η => (fa ρ η).bindS ρ fun x η => (fb ρ η).bindS ρ fun y η => (fc ρ η).bindS ρ fun z η => .nx (((ρ.set i (some x)).set j (some y)).set l (some z)) η
theorem ds_par3 (i j l : Nat) {x y z : Str} {px py pz pt : Pos} {kt k2 pt2} (hc : X.calm = true) (hN : X.N.Nodup) (ha : DE X W a fa) (hb : DE X W b fb) (hcc : DE X W c fc) (hi : X.N[i]? = some x := by rfl) (hj : X.N[j]? = some y := by rfl) (hl : X.N[l]? = some z := by rfl)
    (hij : i ≠ j := by decide) (hil : i ≠ l := by decide) (hjl : j ≠ l := by decide)
    (hx : X.env.scope.names.lookup x = some .local := by rfl) (hy : X.env.scope.names.lookup y = some .local := by rfl) (hz : X.env.scope.names.lookup z = some .local := by rfl)
    (hw : swappedStores [.Tuple [.Name x px, .Name y py, .Name z pz] kt pt] (.Tuple [a, b, c] k2 pt2) X.env = pure (some [x, y, z]) := by rfl)
    (hs : swapsWithSole [.Tuple [.Name x px, .Name y py, .Name z pz] kt pt] (.Tuple [a, b, c] k2 pt2) pos.line X.env = pure false := by rfl)
    (h1 : starEach [a, b, c] X.env = (false, eval a X.env) :: starEach [b, c] X.env := by rfl) (h2 : starEach [b, c] X.env = (false, eval b X.env) :: starEach [c] X.env := by rfl) (h3 : starEach [c] X.env = (false, eval c X.env) :: starEach [] X.env := by rfl) :
    DS X W (.Assign [.Tuple [.Name x px, .Name y py, .Name z pz] kt pt] (.Tuple [a, b, c] k2 pt2) pos) (sPar3 i j l fa fb fc) :=
  PS.imp (ps_par3 hc hN hi hj hl hij hil hjl hx hy hz (pa_cons ha (pa_cons hb (pa_cons hcc pa_nil h3) h2) h1) hw hs) fun E σ H ⟨w, ρ, η, rel, p⟩ => by
    refine (rdE_thenS rel p).imp fun v H1 ⟨w1, d, η1, e, rel1, rv, p1⟩ => ?_
    refine (rdE_thenS rel1 p1).imp fun u H2 ⟨w2, d2, η2, e2, rel2, rv2, p2⟩ => ?_
    refine (rdE_thenS rel2 p2).imp fun u3 H3 ⟨w3, d3, η3, e3, rel3, rv3, p3⟩ => ?_
    exact ⟨_, _, _, rfl, p3 _ w3 H3 .refl ⟨((rel3.env.set ((rv.ext e2).ext e3)).set (rv2.ext e3)).set rv3, rel3.heap⟩⟩
variable {P : Po}
/-- a new list that is given back, told by value from then on -/
theorem trim_lst {F : FF} {ds xs : List D} {η l : Store} (h : F ds η = .ok (.obj η.length) (η ++ .lst xs :: l)) (hl : D.lows η.length xs = true) : trimF F ds η = .ok (.lst xs) η := by
  have hk : keepS η (η ++ .lst xs :: l) := keepS_app _ _
  have hc : cutD η.length (η ++ .lst xs :: l) (.obj η.length) = some (.lst xs) := by
    unfold cutD
    dsimp only
    rw [if_neg (by omega)]
    have e : (η ++ O.lst xs :: l)[η.length]? = some (.lst xs) := by simp
    rw [e]
    exact if_pos hl
  unfold trimF
  rw [h]
  unfold trimR
  dsimp only
  rw [if_pos hk, hc]
  simp
@[simp] theorem w_par3 {i j l : Nat} : wpS (sPar3 i j l fa fb fc ρ η) P ↔ wpR (fa ρ η) (fun x η => wpR (fb ρ η) (fun y η => wpR (fc ρ η) (fun z η => P.nx (((ρ.set i (some x)).set j (some y)).set l (some z)) η) (fun x η => P.ex x ρ η)) (fun x η => P.ex x ρ η)) (fun x η => P.ex x ρ η) := by
  unfold sPar3; rw [wpS_bindS]; simp only [wpS_bindS, w_nxS]
end
end Dn
/-! Dn part 18: op= at names. -/
namespace Dn
open PySem PySem.Spec PyProof.Rows L2
theorem room65 {k : Nat} {A : Around} (r : Room k A) : A.units + 65 < cLine := by have := r.un; omega
section
variable {X : Cx} {W : WX} {K : PySem.W.Frag} {w w1 w' : Wd} {H H1 H' : Hp} {η η1 : Store} {f : FE} {ρ : Env}
def augAdd : G2 := fun x y η => match x with
  | .int i => (match y with
    | .int j => some (.int (i + j), η)
    | _ => none)
  | .str a => (match y with
    | .str b => if a.length + b.length ≤ sizeLine then some (.str (a ++ b), η) else none
    | _ => none)
  | _ => none
theorem iopD_add2 : OpR X (inplaceOp .Add) (rd2 X.K augAdd) := op_of (OpR.or iop_add iop_add_str) fun hr r1 r2 h p => by
  unfold augAdd at h
  split at h
  · split at h
    · cases h; cases r1; cases r2
      exact .inl ⟨_, _, rfl, rfl, val_of p hr (.int _)⟩
    · cases h
  · split at h
    · split at h
      · rename_i hl
        cases h; cases r1; cases r2
        exact .inr ⟨_, _, rfl, rfl, hl, val_of p hr (.str _)⟩
      · cases h
    · cases h
  · cases h
/-- xs += ys of a list that may change -/
def augExt : G2 := fun x y η => match objL x η, lstOf y η with
  | some (k, xs), some ys => if xs.length + ys.length ≤ sizeLine then some (.obj k, η.set k (.lst (xs ++ ys))) else none
  | _, _ => none
theorem iopD_ext : OpR X (inplaceOp .Add) (rd2 X.K augExt) := op_of iop_ext fun hr r1 r2 h p => by
  unfold augExt at h
  split at h
  · rename_i k xs ys eo el
    split at h
    · rename_i hl
      cases h
      obtain ⟨a, zs, rfl, ha, eH, rz⟩ := objL_ok hr r1 eo
      obtain ⟨b, us, rfl, eB, ru⟩ := lstOf_ok hr r2 el
      exact ⟨a, b, zs, us, rfl, rfl, eH, eB, by rw [rz.length, ru.length]; exact hl, wr_of p hr ha eH (rz.append ru) (.obj ha)⟩
    · cases h
  · cases h
/-! ### the greatest, the least of a list -/
def maxI : List Int → Int
  | [] => 0
  | x :: r => r.foldl max x
def minI : List Int → Int
  | [] => 0
  | x :: r => r.foldl min x
theorem foldl_max : ∀ (r : List Int) (x : Int), r.foldl max x ∈ x :: r ∧ ∀ y ∈ x :: r, y ≤ r.foldl max x
  | [], x => by simp
  | z :: r, x => by
    obtain ⟨h1, h2⟩ := foldl_max r (max x z)
    refine ⟨?_, fun y hy => ?_⟩
    · show r.foldl max (max x z) ∈ _
      rcases List.mem_cons.mp h1 with h | h
      · rw [h]
        rcases Int.le_total x z with q | q
        · rw [Int.max_eq_right q]; simp
        · rw [Int.max_eq_left q]; simp
      · simp [h]
    · show y ≤ r.foldl max (max x z)
      have hm := h2 (max x z) List.mem_cons_self
      rcases List.mem_cons.mp hy with rfl | hy
      · exact Int.le_trans (Int.le_max_left _ _) hm
      · rcases List.mem_cons.mp hy with rfl | hy
        · exact Int.le_trans (Int.le_max_right _ _) hm
        · exact h2 y (List.mem_cons_of_mem _ hy)
theorem foldl_min : ∀ (r : List Int) (x : Int), r.foldl min x ∈ x :: r ∧ ∀ y ∈ x :: r, r.foldl min x ≤ y
  | [], x => by simp
  | z :: r, x => by
    obtain ⟨h1, h2⟩ := foldl_min r (min x z)
    refine ⟨?_, fun y hy => ?_⟩
    · show r.foldl min (min x z) ∈ _
      rcases List.mem_cons.mp h1 with h | h
      · rw [h]
        rcases Int.le_total x z with q | q
        · rw [Int.min_eq_left q]; simp
        · rw [Int.min_eq_right q]; simp
      · simp [h]
    · show r.foldl min (min x z) ≤ y
      have hm := h2 (min x z) List.mem_cons_self
      rcases List.mem_cons.mp hy with rfl | hy
      · exact Int.le_trans hm (Int.min_le_left _ _)
      · rcases List.mem_cons.mp hy with rfl | hy
        · exact Int.le_trans hm (Int.min_le_right _ _)
        · exact h2 y (List.mem_cons_of_mem _ hy)
theorem maxI_of {ns : List Int} {m : Int} (h : m ∈ ns) (hm : ∀ y, y ∈ ns → y ≤ m) : m = maxI ns := by
  match ns, h, hm with
  | x :: r, h, hm =>
    obtain ⟨h1, h2⟩ := foldl_max r x
    exact Int.le_antisymm (h2 m h) (hm _ h1)
theorem minI_of {ns : List Int} {m : Int} (h : m ∈ ns) (hm : ∀ y, y ∈ ns → m ≤ y) : m = minI ns := by
  match ns, h, hm with
  | x :: r, h, hm =>
    obtain ⟨h1, h2⟩ := foldl_min r x
    exact Int.le_antisymm (hm _ h1) (h2 m h)
def maxLD : GL := fun ds η => match ds with
  | [d] => match seqL d η with
    | some xs => (match intsOf xs with
      | some (n :: ns) => some (.int (maxI (n :: ns)), η)
      | _ => none)
    | none => none
  | _ => none
def minLD : GL := fun ds η => match ds with
  | [d] => match seqL d η with
    | some xs => (match intsOf xs with
      | some (n :: ns) => some (.int (minI (n :: ns)), η)
      | _ => none)
    | none => none
  | _ => none
theorem callD_maxL (hc : X.calm = true) : CallR X (.builtin "max") (rdL X.K maxLD) := call_of (cr_max hc) fun hr r h p => by
  unfold maxLD at h
  split at h
  · cases r with | cons r1 rr => ?_
    cases rr
    split at h
    · rename_i e
      split at h
      · rename_i n ns en
        cases h
        obtain ⟨a, ys, rfl, s, q⟩ := seqL_ok hr r1 e
        refine ⟨a, n :: ns, rfl, by rw [← ints_ok q en]; exact s, by simp, fun m hm hy => ?_⟩
        rw [maxI_of hm hy]
        exact val_of p hr (.int _)
      · cases h
    · cases h
  · cases h
theorem callD_minL (hc : X.calm = true) : CallR X (.builtin "min") (rdL X.K minLD) := call_of (cr_min hc) fun hr r h p => by
  unfold minLD at h
  split at h
  · cases r with | cons r1 rr => ?_
    cases rr
    split at h
    · rename_i e
      split at h
      · rename_i n ns en
        cases h
        obtain ⟨a, ys, rfl, s, q⟩ := seqL_ok hr r1 e
        refine ⟨a, n :: ns, rfl, by rw [← ints_ok q en]; exact s, by simp, fun m hm hy => ?_⟩
        rw [minI_of hm hy]
        exact val_of p hr (.int _)
      · cases h
    · cases h
  · cases h
/-! ### in, not in: items of a list, by value -/
def inD : G2 := fun x y η => match pd x η, pd y η with
  | some p, some (.list qs) => if plainQ p ∧ plainQ (.list qs) then some (.bl (qs.any fun z => PyData.eqv z p), η) else none
  | _, _ => none
def notInD : G2 := fun x y η => match pd x η, pd y η with
  | some p, some (.list qs) => if plainQ p ∧ plainQ (.list qs) then some (.bl (!qs.any fun z => PyData.eqv z p), η) else none
  | _, _ => none
theorem opD_in (hu : X.A.units + 65 < cLine) : OpR X (compareOp .In) (rd2 X.K inD) := op_of (op_inD hu) fun hr r1 r2 h p => by
  unfold inD at h
  split at h
  · rename_i q qs e1 e2
    split at h
    · rename_i hp
      cases h
      exact ⟨q, qs, pd_ok hr r1 e1, pd_ok hr r2 e2, hp.1, hp.2, val_of p hr (.bl _)⟩
    · cases h
  · cases h
theorem opD_notIn (hu : X.A.units + 65 < cLine) : OpR X (compareOp .NotIn) (rd2 X.K notInD) := op_of (op_notInD hu) fun hr r1 r2 h p => by
  unfold notInD at h
  split at h
  · rename_i q qs e1 e2
    split at h
    · rename_i hp
      cases h
      exact ⟨q, qs, pd_ok hr r1 e1, pd_ok hr r2 e2, hp.1, hp.2, val_of p hr (.bl _)⟩
    · cases h
  · cases h
variable {P : Po}
@[simp] theorem w_aug {i : Nat} {g : G2} : wpS (sAug i g f ρ η) P ↔ wpO (ρ[i]?) fun o => wpO o fun x => wpR (f ρ η) (fun y η => wpO (g x y η) fun p => P.nx (ρ.set i (some p.1)) p.2) (fun x η => P.ex x ρ η) := by
  unfold sAug
  cases e : ρ[i]? with
  | none => exact Iff.rfl
  | some o =>
    cases o with
    | none => exact Iff.rfl
    | some x =>
      dsimp only [wpO_some]
      rw [wpS_bindS]
      refine wpR_congr fun y η => ?_
      rw [wpS_bindS]
      cases g x y η <;> exact Iff.rfl
end
end Dn
/-! Dn part 19: empty dicts, lists turned round. -/
namespace Dn
open PySem PySem.Spec PyProof.Rows L2
section
variable {X : Cx} {W : WX} {K : PySem.W.Frag} {w w1 w' : Wd} {H H1 H' : Hp} {η η1 : Store} {f : FE} {ρ : Env} {e : Expr} {pos : Pos}
def mkDK : FE := fun _ η => .ok (.obj η.length) (η ++ [.dK []])
def mkDT : FE := fun _ η => .ok (.obj η.length) (η ++ [.dT []])
theorem de_dK : DE X W (.Dict [] [] pos) mkDK := PE.imp pe_dnewK fun σ H Q ⟨w, ρ, η, rel, p⟩ => fun q hq =>
  p _ _ _ (Ext.more hq rel.heap) (rel.heap.more hq ⟨[], upd_same, repF_nil⟩) (.obj (rel.heap.ixO q))
theorem de_dT : DE X W (.Dict [] [] pos) mkDT := PE.imp pe_dnewT fun σ H Q ⟨w, ρ, η, rel, p⟩ => fun q hq =>
  p _ _ _ (Ext.more hq rel.heap) (rel.heap.more hq ⟨[], upd_same, repF_nil⟩) (.obj (rel.heap.ixO q))
/-- xs[::-1] -/
def revD : G1 := fun x η => match seqL x η with
  | some xs => some (.lst xs.reverse, η)
  | none => none
theorem de_rev {k : Nat} {p1 p2 p3 : Pos} (he : DE X W e f) : DE X W (.Subscript e (.Slice none none (some (.UnaryOp .USub (.Constant (.int 1) k p1) p2)) p3) pos) (e1 revD f) :=
  PE.imp (pe_revL he) fun σ H Q ⟨w, ρ, η, rel, p⟩ => by
    refine (rdE_then rel p).imp fun v H1 ⟨w1, d, η1, e, rel1, rv, p1⟩ => ?_
    cases eg : revD d η1 with
    | none => rw [eg] at p1; exact p1.elim
    | some zη =>
      obtain ⟨z, η'⟩ := zη
      rw [eg] at p1
      unfold revD at eg
      split at eg
      · rename_i xs es
        cases eg
        obtain ⟨a, ys, rfl, s, q⟩ := seqL_ok rel1.heap rv es
        exact ⟨a, ys, rfl, s, fun p hp => lst_of (fun v w' H' e' hr' r' => p1 v w' H' e' hr' r') rel1.heap q.reverse hp⟩
      · cases eg
variable {P : Po} {QD : D → Store → Prop} {E : Ex → Store → Prop}
@[simp] theorem w_mkDK : wpR (mkDK ρ η) QD E ↔ QD (.obj η.length) (η ++ [.dK []]) := Iff.rfl
@[simp] theorem w_mkDT : wpR (mkDT ρ η) QD E ↔ QD (.obj η.length) (η ++ [.dT []]) := Iff.rfl
@[simp] theorem revD_lst {xs : List D} : revD (.lst xs) η = some (.lst xs.reverse, η) := rfl
end
end Dn
/-! Dn part 20: sorted(set(a list of ints)), len(set(..)). -/
namespace Dn
open PySem PySem.Spec PyProof.Rows L2
/-- a set object, just made -/
abbrev setNew (w : World) : Obj := { cls := .type "set", dict := none, data := .set #[] 0 (.fresh 0 0 (!w.params.followText "set-order")) }
section
variable {P : Program} {w : World} {A : Around} {E : Value → Shared → Prop} {s : Shared}
/-- what a filled set leaves -/
def Filled (w : World) (s : Shared) (ns : List Int) (s' : Shared) : Prop := ∃ (h' : Heap) (tk c : Nat), s' = { s with heap := h', toks := tk } ∧ SetR w h' s.heap.objs.size (fun j => decide (j ∈ ns)) c ∧ c ≤ ns.length ∧ ∀ b o, s.heap.get? b = some o → h'.get? b = some o
set_option maxHeartbeats 3200000 in
theorem set_init_lst {l : Addr} {items : Array Value} (ns : List Int) (hh : A.handled = none) (hl : s.heap.IsList l items) (hit : IntsAre items.toList ns) (hb : ns.length + 1 < scanBound) :
    codeAny (model P w) A (.call (.builtin "set.__init__") ⟨[.ref s.heap.objs.size, .ref l], []⟩) (wants (fun r s₂ => r = .none ∧ Filled w s ns s₂) E) { s with heap := s.heap.push (setNew w) } := by
  have hn : items.size = ns.length := by
    have q := IntsAre.length hit
    rwa [Array.length_toList] at q
  have hS : (s.heap.push (setNew w)).get? s.heap.objs.size = some (setNew w) := Heap.get?_push_size _ rfl
  refine codeAny_call_builtin F.called_set.init.plain F.entry_set_init (check_set_init_1 ⟨_, hS, rfl⟩ ?_)
  have hl1 : (s.heap.push (setNew w)).IsList l items := hl.push _
  obtain ⟨ol, hol, hcl, nl, hdl⟩ := hl
  obtain ⟨ocls, odict, odata, oslots⟩ := ol
  simp only at hcl hdl
  subst hcl hdl
  have hol' := Heap.get?_push_of_some (setNew w) hol
  have hlS : l < s.heap.objs.size := Heap.lt_size hol
  have hsls := F.sub_list_set
  have hslf := F.sub_list_frozenset
  have hne : (Value.type "list" == Value.type "dict") = false := by decide
  have hT : Shared.TypeIs { s with heap := s.heap.push (setNew w) } (.ref s.heap.objs.size) "set" := ⟨_, hS, rfl⟩
  unfold Builtin.«set.__init__» noKeywords Builtin.Frozenset.updateFrom
  generalize hPI : pyIter = PI
  wp_walk
  subst hPI
  refine wpAny_pyIter_list hl1 ?_
  refine wpAny_bind (wpAny_runValue ?_)
  have hz1 : (s.heap.push (setNew w)).objs.size = s.heap.objs.size + 1 := Heap.size_push ..
  have hneI : l ≠ (s.heap.push (setNew w)).objs.size := by rw [hz1]; exact Nat.ne_of_lt (Nat.lt_succ_of_lt hlS)
  have hSf : s.heap.objs.size ∉ [(s.heap.push (setNew w)).objs.size, l] := by
    rw [hz1]
    intro q
    rcases List.mem_cons.mp q with q | q
    · exact absurd q (Nat.ne_of_lt (Nat.lt_succ_self _))
    · have : s.heap.objs.size = l := by simpa using q
      exact absurd this (Nat.ne_of_gt hlS)
  have hval : ∀ (i : Nat) (v : Value), items[i]? = some v → ∃ k t, ns[i]? = some k ∧ v = .int k t := fun i v hv => by
    have hi : i < ns.length := by rw [← hn]; exact (Array.getElem?_eq_some_iff.mp hv).1
    obtain ⟨t, e⟩ := PyProof.Rows.IntsAre.int_at hit i v (by rw [Array.getElem?_toList]; exact hv)
    exact ⟨ns[i], t, List.getElem?_eq_getElem hi, by rw [e, List.getD_eq_getElem?_getD, List.getElem?_eq_getElem hi]; rfl⟩
  have hset : ((s.heap.push (setNew w)).push { cls := .type "list_iterator", data := .fields #[.ref l, .int 0 0] }).get? s.heap.objs.size = some (setNew w) := Heap.get?_push_of_some _ hS
  refine set_update_ints ((Walks.list (by simp [hh]) _ l hneI items).toS) s.heap.objs.size hSf ns hn hb hval items.size 0 _ (by omega) (Nat.zero_le _)
    ⟨⟨_, Heap.get?_push_size _ rfl, rfl, rfl⟩, hl1.push _⟩ ⟨0, Nat.le_refl 0, setR_new_at hset⟩ ?_
  rintro ⟨h', g2, d', tk', os'⟩ c' hm hc' hS'
  obtain rfl : g2 = s.gens := hm.gens
  obtain rfl : d' = s.drawn := hm.drawn
  obtain rfl : os' = s.os := hm.os
  refine wpAny_pure ?_
  rw [hn] at hc'
  refine wpAny_pure ⟨rfl, h', tk', c', rfl, hS', hc', fun b o e => ?_⟩
  have hb0 : b < s.heap.objs.size := Heap.lt_size e
  refine hm.heap b o (fun q => ?_) (Heap.get?_push_of_some _ (Heap.get?_push_of_some _ e))
  rcases List.mem_cons.mp q with q | q
  · exact absurd q (Nat.ne_of_lt hb0)
  · have : b = (s.heap.push (setNew w)).objs.size := by simpa using q
    rw [hz1] at this
    exact absurd this (Nat.ne_of_lt (Nat.lt_succ_of_lt hb0))
set_option maxHeartbeats 3200000 in
theorem call_set_lst {l : Addr} {items : Array Value} (ns : List Int) {Q : Value → Shared → Prop} (hh : A.handled = none) (hl : s.heap.IsList l items) (hit : IntsAre items.toList ns) (hb : ns.length + 1 < scanBound)
    (h : ∀ s', Filled w s ns s' → Q (.ref s.heap.objs.size) s') : wpAny (model P w) A (call (.type "set") [.ref l]) Q E s := by
  obtain ⟨c, tl, hmro⟩ := F.called_set.mro
  have hmade := F.called_set.made
  have hsub := F.called_set.sub
  refine wpAny_call (codeAny_of_tree ?_)
  show wpAny _ _ (callAny (.type "set") _) _ _ _
  refine wpAny_pure ⟨Code.quiet_builtin _ (by decide +kernel), codeAny_builtin F.entry_type_call ?_⟩
  rw [Around.under_plain (weight_type_call_type "set" [.ref l] []) rfl]
  have h1 := F.called_set.notType
  have h2 := F.called_set.canCreate
  have hct := F.typeCall_set_1 (.ref l)
  repeat (any_goals (first | assumption | wp_step))
  refine codeAny_mono (code_set_led1 (.ref l) (E := E) (Q₁ := fun obj s₁ => obj = .ref s.heap.objs.size ∧ s₁ = { s with heap := s.heap.push (setNew w) }) ⟨rfl, rfl⟩) fun r s₁ hr => ?_
  match r, hr with
  | .error e, hr => exact hr
  | .ok (.ret obj), hr =>
    obtain ⟨rfl, rfl⟩ := hr
    have hT : Shared.TypeIs { s with heap := s.heap.push (setNew w) } (.ref s.heap.objs.size) "set" := ⟨_, Heap.get?_push_size _ rfl, rfl⟩
    have hli := F.called_set.init.lookup
    have hbi := F.called_set.init.bind (.ref s.heap.objs.size)
    repeat (any_goals (first | assumption | wp_step))
    refine codeAny_mono (set_init_lst (E := E) ns hh hl hit hb) fun r₂ s₂ hr₂ => ?_
    match r₂, hr₂ with
    | .error e, hr₂ => exact hr₂
    | .ok (.ret r), hr₂ =>
      obtain ⟨rfl, hf⟩ := hr₂
      repeat (any_goals (first | assumption | wp_step))
      exact h _ hf
end
/-! ### sorted(set(xs)), xs a list of ints -/
section
variable {X : Cx} {W : WX} {K : PySem.W.Frag} {w w1 w' : Wd} {H H1 H' : Hp} {η η1 : Store} {f : FE} {ρ : Env} {a : Expr} {pos p p2 q : Pos}
theorem ddI_pos : ∀ (l m : List Int), (∀ k, k ∈ l ↔ k ∈ m) → l.Pairwise (· < ·) → l = sortU m := fun l m h hl => by
  have h1 : rise (sortU m) = true := rise_sortU
  have h2 := rise_iff.mp h1
  have hp : l.Perm (sortU m) := (List.perm_ext_iff_of_nodup (List.nodup_iff_pairwise_ne.mpr (hl.imp fun h => Int.ne_of_lt h)) (List.nodup_iff_pairwise_ne.mpr (h2.imp fun h => Int.ne_of_lt h))).mpr fun k => by rw [h k, mem_sortU]
  exact sorted_eq hp (hl.imp fun h => Int.le_of_lt h) (h2.imp fun h => Int.le_of_lt h)
def sortSet (f : FE) : FE := fun ρ η => (f ρ η).bind fun d η => match seqL d η with
  | some xs => (match intsOf xs with
    | some ns => if ns.length < 64 then .ok (.lst ((sortU ns).map D.int)) η else .no
    | none => .no)
  | none => .no
theorem w_sortSet {QD : D → Store → Prop} {E : Ex → Store → Prop} : wpR (sortSet f ρ η) QD E ↔ wpR (f ρ η) (fun d η => wpO (seqL d η) fun xs => wpO (intsOf xs) fun ns => ns.length < 64 ∧ QD (.lst ((sortU ns).map D.int)) η) E := by
  unfold sortSet; rw [wpR_bind]
  refine wpR_congr fun d η => ?_
  cases h : seqL d η with
  | none => exact Iff.rfl
  | some xs =>
    rw [wpO_some]
    dsimp only
    cases h2 : intsOf xs with
    | none => exact Iff.rfl
    | some ns =>
      rw [wpO_some]
      dsimp only
      by_cases h3 : ns.length < 64
      · rw [if_pos h3]; simp [h3]
      · rw [if_neg h3]; simp [h3]
theorem de_sortSet (hc : X.calm = true) (hm : X.mg "sorted" = none) (hm2 : X.mg "set" = none) (ha : DE X W a f) (hg : Gl X "sorted" := by rfl) (hg2 : Gl X "set" := by rfl)
    (na : starEach [a] X.env = (false, eval a X.env) :: starEach [] X.env := by rfl) : DE X W (.Call (.Name "sorted" p) [.Call (.Name "set" p2) [a] [] q] [] pos) (sortSet f) := by
  refine ⟨fun pins s σ H Q I ⟨w, ρ, η, rel, hp⟩ => ?_⟩
  refine Call_ (ld_blt I hg hm PyProof.Rows.boot_sorted ?_)
  refine PyProof.Rows.callWith_builtin1 (PyProof.Rows.args_cons ?_ rfl) rfl rfl
  refine Call_ (ld_blt I hg2 hm2 PyProof.Rows.boot_set ?_)
  refine PyProof.Rows.callWith_type1 (PyProof.Rows.args_cons (thn (ha.run pins s σ H _ I (rdE_then rel hp)) fun v s1 ⟨x, H1, I1, r1, w1, d, η1, e1, rel1, rv, p1⟩ => PyProof.Rows.args_nil ?_) na) na rfl
  split at p1
  case h_2 => exact p1.elim
  rename_i xs es
  split at p1
  case h_2 => exact p1.elim
  rename_i ns en
  split at p1
  case isFalse => exact p1.elim
  rename_i h64
  obtain ⟨l, vs, rfl, hq, rr⟩ := seqL_ok rel1.heap rv es
  cases r1
  have ev := ints_ok rr en
  subst ev
  obtain ⟨its, r, pl, hz⟩ := I1.list hq
  refine call_set_lst ns (I1.ok.hd hc) pl.isList (by simpa using r.ints) (by unfold scanBound; omega) fun s2 ⟨h', tk, c, es2, hR, hcn, hk⟩ => ?_
  subst es2
  refine PyProof.Rows.args_nil ?_
  refine sorted_set hR (I1.ok.hd hc) (by omega) fun s' p out c2 ms k g o hp2 hgp hi hs hmm hll => ?_
  have hms : ms = sortU ns := ddI_pos ms ns (fun k => by rw [hmm k]; simp) hs
  subst hms
  have I2 : Inv X pins σ H1 { s1 with heap := h', toks := tk } := I1.kept fun b o e => hk b o e
  have hlen : ((sortU ns).map V.int).length ≤ sizeLine := by
    have := len_sortU (ns := ns)
    rw [List.length_map]; exact Nat.le_trans (show (sortU ns).length ≤ 64 by omega) (by decide)
  have hn : H1 p = none := I2.hok.fresh hp2
  have J : Inv X pins σ (upd H1 p (.lst ((sortU ns).map V.int))) { s1 with heap := s'.heap, gens := s'.gens, drawn := s'.drawn, toks := s'.toks } :=
    Inv.call (s := { s1 with heap := h', toks := tk }) (ch := []) I2 (Un.laid k hp2 hn) (I2.hok.laid k hp2 ⟨hlen, out.toList, c2, vals_of_ints hi, hgp⟩) (by rw [g]; exact I2.bare) (fun _ z => nomatch z)
  have e : s' = { s1 with heap := s'.heap, gens := s'.gens, drawn := s'.drawn, toks := s'.toks } := by
    cases s'
    cases s1
    cases o
    rfl
  rw [e]
  exact ⟨.ref p, _, J, rfl, lst_of p1 rel1.heap (ints_rep _) hn⟩
end
end Dn
/-! Dn part 21: raise. -/
namespace Dn
open PySem PySem.Spec PyProof.Rows L2
section
variable {X : Cx} {W : WX} {K : PySem.W.Frag} {w w1 w' : Wd} {σ : L2.St} {H H1 H' : Hp} {ρ : Env} {η η1 : Store} {fa fb fc f : FE} {a b c e : Expr} {es : List Expr} {pos p p2 p3 : Pos} {fA : FA} {j : Nat}
/-- what must be known of a class of errors without own __init__ -/
structure ExcK (K : PySem.W.Frag) (mg : Str → Option Value) (x : Str) : Prop where
  g : mg x = some (.ref (He.ga K x))
  ex : PySem.W.excIn K (He.ga K x) He.veBase "ValueError.__new__" = true
  kp : PySem.W.keepIn K (.ref (He.ga K x)) = true
  sb : PySem.W.subIn K (.ref (He.ga K x)) (.type "BaseException") = some true
  ty : PySem.W.typeIn K (.ref (He.ga K x)) = some (.type "type")
theorem excK_of {h : Heap} {mg : Str → Option Value} (X : K.In h) (G : h.Ns mainGlobals mg) {x : Str} (c1 : (He.Fa.glo x).ok K = true) (c2 : (He.Fa.exc x).ok K = true) : ExcK K mg x := by
  obtain ⟨h1, h2, h3, h4⟩ := He.exc_ok c2
  exact ⟨He.glo_ok X G c1, h1, h2, h3, h4⟩
/-- raise x("..") -/
def sRaise (x : Str) : FS := fun ρ η => .exc ⟨x, none⟩ ρ η
theorem ds_raise {x m : Str} (hc : X.calm = true) (tk : L2N.Takes X W) (k : ExcK X.K X.mg x) (hg : Gl X x := by rfl) (hdb : (x == ("__debug__" : Str)) = false := by decide) :
    DS X W (.Raise (some (.Call (.Name x p) [.Constant (.str m) j p2] [] p3)) none pos) (sRaise x) :=
  PS.imp (L2N.ps_raise hc tk (L2N.pmk_own F.excBase_ValueError k.ex k.g k.kp (raises_own k.sb k.ty) hg hdb)) fun E σ H ⟨w, ρ, η, rel, q⟩ => q _ _ σ w H .refl rel ⟨rfl, rfl⟩
variable {P : Po}
@[simp] theorem w_raise {x : Str} : wpS (sRaise x ρ η) P ↔ P.ex ⟨x, none⟩ ρ η := Iff.rfl
end
end Dn
/-! Dn part 22: a comprehension over zip within an except suite. -/
namespace Dn
open PySem PySem.Spec PyProof.Rows L2
section
variable {prog : Program} {w : World} {A : Around} {E : Value → Shared → Prop} {s : Shared}
/-- the handled exception stands there, its context None -/
def HotO (x1 : Addr) (h : Heap) : Prop := ∃ (o : Obj) (vs : Array Value), h.get? x1 = some o ∧ o.data = .fields vs ∧ vs[2]? = some .none
theorem HotO.keep {x1 : Addr} {h h' : Heap} (a : HotO x1 h) (k : ∀ o, h.get? x1 = some o → h'.get? x1 = some o) : HotO x1 h' :=
  let ⟨o, vs, e, d, c⟩ := a
  ⟨o, vs, k o e, d, c⟩
theorem hot_end {it l x1 : Addr} {i : Nat} {items : Array Value} {Q : Value → Shared → Prop} (hh : A.handled = some (.ref x1)) (hx : x1 ≠ it) (ho : HotO x1 s.heap) (hit : s.heap.IsListIter it l i) (hl : s.heap.IsList l items) (hn : items[i]? = none)
    (hE : ∀ h' e, Heap.ExtBut it s.heap h' → (∃ o, h'.get? e = some o ∧ o.cls = .type "StopIteration") → E (.ref e) { s with heap := h' }) : wpAny (model prog w) A (Builtin.SmallTypes.nextOf (.ref it)) Q E s := by
  obtain ⟨oi, hoi, hci, hdi⟩ := id hit
  obtain ⟨ol, hol, _, nl, hdl⟩ := hl
  unfold Builtin.SmallTypes.nextOf
  refine wpAny_bind (wpAny_callSpecial?_slot (name := Str.ofString "__next__") hit.typeIs slot_listiter_next (wpAny_call_entry slot_listiter_next hit.typeIs entry_listiter_next ?_ (args_listiter_next _)))
  show wpAny _ _ (field (.ref it) 0 >>= _) _ _ s
  refine wpAny_bind (wpAny_field hoi hdi (x := .ref l) rfl ?_)
  show wpAny _ _ (if (Value.ref l == Value.none) = true then _ else _) _ _ s
  rw [if_neg (show ¬ ((Value.ref l == Value.none) = true) from Bool.false_ne_true)]
  show wpAny _ _ (field (.ref it) 1 >>= _) _ _ s
  refine wpAny_bind (wpAny_field hoi hdi (x := .int i 0) rfl ?_)
  show wpAny _ _ (seqItems? (.ref l) >>= _) _ _ s
  refine wpAny_bind (wpAny_seqItems hol hdl ?_)
  simp only [Int.toNat_natCast, hn]
  refine wpAny_bind (wpAny_rule (wpAny_bind (wpAny_setField hoi hdi (by simp) ?_)))
  show wpAny _ _ (newExc (.type "StopIteration") [] >>= _) _ _ _
  refine wpAny_bind ?_
  simp only [newExc, newTuple]
  refine wpAny_bind (wpAny_newObj_type ?_ (by size_fits))
  refine wpAny_bind (m := firstArgMember _ _) (wpAny_of_eq (a := Value.none) (by first | rfl | (simp only [firstArgMember]; rfl)) ?_)
  refine wpAny_newObj_type ?_ (by size_fits)
  obtain ⟨o, vs, h1, h2, h3⟩ := ho
  have hxs : x1 < s.heap.objs.size := Heap.lt_size h1
  refine HotX.raiseNew_hot ⟨hh, o, vs, ?_, h2, h3⟩ ?_ (Heap.get?_push_size _ rfl) rfl (by simp; omega) ?_
  · exact Heap.get?_push_of_some _ (Heap.get?_push_of_some _ ((Heap.get?_update_ne _ _ _ _ hx).trans h1))
  · refine Nat.ne_of_lt (Nat.lt_of_lt_of_le hxs ?_)
    rw [Heap.size_push, Heap.size_update]
    exact Nat.le_succ _
  · refine hE _ _ (fun b ob hb e => ?_) ⟨_, Heap.get?_update_self _ (Heap.get?_push_size _ rfl) rfl, rfl⟩
    rw [Heap.get?_update_ne]
    · exact (((Heap.SameBut.update ..).extBut.push _).push _) b ob hb e
    · refine Nat.ne_of_lt (Nat.lt_of_lt_of_le (Heap.lt_size e) ?_)
      rw [Heap.size_push, Heap.size_update]
      exact Nat.le_succ _
theorem draws_hot {x1 : Addr} (hh : A.handled = some (.ref x1)) (it l : Addr) (hne : l ≠ it) (hx : x1 ≠ it) (items : Array Value) :
    Draws prog w A it [it, l, x1] items.size (fun i v => items[i]? = some v) (fun i h => h.IsListIter it l i ∧ h.IsList l items ∧ HotO x1 h) where
  live := fun _ _ st => let ⟨o, ho, _⟩ := st.1; ⟨o, ho⟩
  frame := fun _ _ _ st hk => ⟨st.1.at fun o e => hk it (by simp) o e, st.2.1.at fun o e => hk l (by simp) o e, st.2.2.keep fun o e => hk x1 (by simp) o e⟩
  item := fun i s Q E hi st hQ => by
    refine wpAny_nextOf_list_item st.1 st.2.1 (x := items[i]) (by simp [hi]) fun h' hit' hs' => ?_
    exact hQ _ h' s.toks (by simp [hi]) ⟨hit', st.2.1.extBut hs'.extBut hne, st.2.2.keep fun o e => hs'.extBut x1 o hx e⟩ hs'
  done := fun s Q E st hE => hot_end hh hx st.2.2 st.1 st.2.1 (by simp) hE
theorem hot_tend {it l x1 : Addr} {i : Nat} {items : Array Value} {Q : Option Value → Shared → Prop} (hh : A.handled = some (.ref x1)) (hx : x1 ≠ it) (ho : HotO x1 s.heap) (hit : s.heap.IsTupleIter it l i) (hl : s.heap.IsTuple l items) (hn : items[i]? = none)
    (hQ : ∀ h', Heap.ExtBut it s.heap h' → Q none { s with heap := h' }) : wpAny (model prog w) A (pyNext (.ref it)) Q E s := by
  obtain ⟨oi, hoi, hci, hdi⟩ := id hit
  obtain ⟨ol, hol, _, nl, hdl⟩ := hl
  unfold pyNext
  refine wpAny_bind (wpAny_attempt (wpAny_callSpecial?_slot (name := Str.ofString "__next__") hit.typeIs F.slot_tuple_iterator_next (wpAny_call_entry F.slot_tuple_iterator_next hit.typeIs F.entry_tuple_iterator_next ?_ (F.args_tuple_iterator_next_1 _))))
  show wpAny _ _ (field (.ref it) 0 >>= _) _ _ s
  refine wpAny_bind (wpAny_field hoi hdi (x := .ref l) rfl ?_)
  show wpAny _ _ (if (Value.ref l == Value.none) = true then _ else _) _ _ s
  rw [if_neg (show ¬ ((Value.ref l == Value.none) = true) from Bool.false_ne_true)]
  show wpAny _ _ (field (.ref it) 1 >>= _) _ _ s
  refine wpAny_bind (wpAny_field hoi hdi (x := .int i 0) rfl ?_)
  show wpAny _ _ (seqItems? (.ref l) >>= _) _ _ s
  refine wpAny_bind (wpAny_seqItems hol hdl ?_)
  simp only [Int.toNat_natCast, hn]
  refine wpAny_bind (wpAny_rule (wpAny_bind (wpAny_setField hoi hdi (by simp) ?_)))
  show wpAny _ _ (newExc (.type "StopIteration") [] >>= _) _ _ _
  refine wpAny_bind ?_
  simp only [newExc, newTuple]
  refine wpAny_bind (wpAny_newObj_type ?_ (by size_fits))
  refine wpAny_bind (m := firstArgMember _ _) (wpAny_of_eq (a := Value.none) (by first | rfl | (simp only [firstArgMember]; rfl)) ?_)
  refine wpAny_newObj_type ?_ (by size_fits)
  obtain ⟨o, vs, h1, h2, h3⟩ := ho
  have hxs : x1 < s.heap.objs.size := Heap.lt_size h1
  refine HotX.raiseNew_hot ⟨hh, o, vs, ?_, h2, h3⟩ ?_ (Heap.get?_push_size _ rfl) rfl (by simp; omega) ?_
  · exact Heap.get?_push_of_some _ (Heap.get?_push_of_some _ ((Heap.get?_update_ne _ _ _ _ hx).trans h1))
  · refine Nat.ne_of_lt (Nat.lt_of_lt_of_le hxs ?_)
    rw [Heap.size_push, Heap.size_update]
    exact Nat.le_succ _
  · refine wpAny_bind (wpAny_isInstance (T := "StopIteration") (b := true) ⟨_, Heap.get?_update_self _ (Heap.get?_push_size _ rfl) rfl, rfl⟩ isSubtype_stop ?_)
    refine wpAny_pure (hQ _ fun b ob hb e => ?_)
    rw [Heap.get?_update_ne]
    · exact (((Heap.SameBut.update ..).extBut.push _).push _) b ob hb e
    · refine Nat.ne_of_lt (Nat.lt_of_lt_of_le (Heap.lt_size e) ?_)
      rw [Heap.size_push, Heap.size_update]
      exact Nat.le_succ _
theorem hot_items {t x1 : Addr} {items : Array Value} {Q : List Value → Shared → Prop} (hh : A.handled = some (.ref x1)) (ho : HotO x1 s.heap) (ht : s.heap.IsTuple t items)
    (hQ : ∀ h', Heap.ExtBut s.heap.objs.size s.heap h' → Q items.toList { s with heap := h' }) : wpAny (model prog w) A (unpackItems (.ref t) items.size none) Q E s := by
  have hlt : t ≠ s.heap.objs.size := by obtain ⟨o, e, _⟩ := ht; exact Nat.ne_of_lt (Heap.lt_size e)
  have hx : x1 ≠ s.heap.objs.size := by obtain ⟨o, _, e, _⟩ := ho; exact Nat.ne_of_lt (Heap.lt_size e)
  have hall : List.take items.size (List.drop 0 items.toList) = items.toList := by
    rw [List.drop_zero]; exact List.take_of_length_le (by simp)
  unfold unpackItems
  refine wpAny_bind ?_
  unfold notIterableAtAll
  refine wpAny_bind (wpAny_specialOf ht.typeIs F.slot_tuple_iter.lookup (wpAny_pure ?_))
  simp only [Bool.false_eq_true, if_false]
  refine wpAny_bind (wpAny_holding (wpAny_pyIter_tuple ht ?_))
  refine wpAny_bind (wpAny_holding (wpAny_draw_tuple hlt items.size 0 _ _ ⟨_, Heap.get?_push_size _ rfl, rfl, rfl⟩ (ht.push _) (by omega) fun h₁ hit₁ hs₁ => ?_))
  rw [hall, if_neg (by simp)]
  refine wpAny_bind (wpAny_holding (hot_tend hh hx ((ho.keep fun o e => Heap.get?_push_of_some _ e).keep fun o e => hs₁.extBut x1 o hx e) hit₁ ((ht.push _).extBut hs₁.extBut hlt) (by simp) fun h₂ he₂ => ?_))
  simp only [Option.isSome_none, Bool.false_eq_true, if_false]
  exact wpAny_pure (hQ h₂ fun b o hb e => he₂ b o hb (hs₁.extBut b o hb (Heap.get?_push_of_some _ e)))
theorem hot_assign {env : PySem.Env} {elts : List Expr} {k : Nat} {pos : Pos} {t x1 : Addr} {items : Array Value} {Q : Unit → Shared → Prop} (hh : A.handled = some (.ref x1)) (ho : HotO x1 s.heap) (ht : s.heap.IsTuple t items)
    (hn : (assignEach elts env).length = items.size) (hstar : (assignEach elts env).findIdx? (·.1) = none)
    (h : ∀ h', Heap.ExtBut s.heap.objs.size s.heap h' → wpAny (model prog w) A (assignInOrder ((assignEach elts env).map (·.2)) items.toList) Q E { s with heap := h' }) : wpAny (model prog w) A (assign (.Tuple elts k pos) env (.ref t)) Q E s := by
  rw [arm_assign_Tuple]
  refine wpAny_bind (wpAny_standAt ?_)
  unfold unpack
  rw [hn, hstar]
  exact wpAny_bind (wpAny_holding (hot_items hh ho ht h))
end
end Dn
/-! Dn part 23: [word for word, good in zip(words, marks) if good] within an except suite. -/
namespace Dn
open PySem PySem.Spec PyProof.Rows L2
def pick : List Str → List Bool → List Str
  | w :: ws, b :: bs => if b = true then w :: pick ws bs else pick ws bs
  | _, _ => []
theorem pick_take : ∀ (ws : List Str) (bs : List Bool) (i : Nat) (h1 : i < ws.length) (h2 : i < bs.length), pick (ws.take (i + 1)) (bs.take (i + 1)) = pick (ws.take i) (bs.take i) ++ (if bs[i] = true then [ws[i]] else [])
  | [], _, _, h, _ => by simp at h
  | _ :: _, [], _, _, h => by simp at h
  | w :: ws, b :: bs, 0, _, _ => by
    show (if b = true then w :: pick (ws.take 0) (bs.take 0) else pick (ws.take 0) (bs.take 0)) = [] ++ _
    cases b <;> simp [pick]
  | w :: ws, b :: bs, i + 1, h1, h2 => by
    have ih := pick_take ws bs i (by simpa using h1) (by simpa using h2)
    show (if b = true then w :: pick (ws.take (i + 1)) (bs.take (i + 1)) else pick (ws.take (i + 1)) (bs.take (i + 1))) = (if b = true then w :: pick (ws.take i) (bs.take i) else pick (ws.take i) (bs.take i)) ++ _
    rw [ih]
    cases b <;> simp
theorem vals_get {vs : List V} {us : List Value} {i : Nat} {v : V} (r : Vals vs us) (h : vs[i]? = some v) : ∃ u, us[i]? = some u ∧ RelV v u := by
  induction r generalizing i with
  | nil => simp at h
  | cons a b ih =>
    cases i with
    | zero => simp at h; subst h; exact ⟨_, rfl, a⟩
    | succ i => exact ih (by simpa using h)
theorem vals_snoc {vs : List V} {us : List Value} {v : V} {u : Value} (r : Vals vs us) (h : RelV v u) : Vals (vs ++ [v]) (us ++ [u]) := by
  induction r with
  | nil => exact .cons h .nil
  | cons a b ih => exact .cons a ih
def rHZ (Q : VK) : List V → Hp → Prop := fun us H => ∃ (a1 a2 : Addr) (ws : List Str) (bs : List Bool), us = [.ref a1, .ref a2] ∧ H a1 = some (.lst (ws.map V.str)) ∧ H a2 = some (.lst (bs.map V.bl)) ∧ ws.length ≤ 1000 ∧
  ∀ p, H p = none → Q (.ref p) (upd H p (.lst ((pick ws bs).map V.str)))
def tHZ (t : TA) : TE := fun σ H Q => t σ H (rHZ Q)
theorem pick_len : ∀ (ws : List Str) (bs : List Bool), (pick ws bs).length ≤ ws.length
  | [], _ => by simp [pick]
  | w :: ws, [] => by simp [pick]
  | w :: ws, b :: bs => by
    have := pick_len ws bs
    cases b <;> simp [pick] <;> omega
theorem pick_min : ∀ (ws : List Str) (bs : List Bool) (n : Nat), min ws.length bs.length ≤ n → pick (ws.take n) (bs.take n) = pick ws bs
  | [], _, _, _ => by simp [pick]
  | w :: ws, [], n, _ => by cases n <;> simp [pick]
  | w :: ws, b :: bs, 0, h => by simp at h
  | w :: ws, b :: bs, n + 1, h => by
    have ih := pick_min ws bs n (by simp at h; omega)
    show (if b = true then w :: pick (ws.take n) (bs.take n) else pick (ws.take n) (bs.take n)) = if b = true then w :: pick ws bs else pick ws bs
    rw [ih]
theorem hot_off {N C D x1 l1 l2 : Nat} {b : Nat} (hb : b < N ∨ b = C) (hC : N + 5 ≤ C) (hD : N + 5 ≤ D) (h : D ≠ C) : ¬ (b = D ∨ b = N + 4 ∨ b = N + 3 ∨ b = N ∨ b = N + 1) := by omega
theorem hot_ne {N C b : Nat} (hb : b < N + 5) (hC : N + 5 ≤ C) : b ≠ C := by omega
theorem hot_lt {N l1 l2 x1 b : Nat} (h1 : l1 < N) (h2 : l2 < N) (h3 : x1 < N) (hb : b = N + 4 ∨ b = N + 2 ∨ b = N + 3 ∨ b = N ∨ b = l1 ∨ b = x1 ∨ b = N + 1 ∨ b = l2 ∨ b = x1) : b < N + 5 := by omega
section
variable {X : Cx} {a : Addr} {oe : Obj} {pn : List (Addr × Obj)} {e1 e2 : Expr} {t : TA} {wn gn : Str} {pe pa pb pt zp zpos pos gp : Pos} {kk : Nat} {scope : Scope}
set_option maxHeartbeats 4000000 in
theorem pe_hotzip (hctx : ∃ vs : Array Value, oe.data = .fields vs ∧ vs[2]? = some .none) (hm : X.mg "zip" = none) (hg : Gl X "zip") (ha : PA (X.suite a ((a, oe) :: pn)) [e1, e2] t)
    (hfree : ∀ y ∈ scope.names, y.2 ≠ .free) (hcell : ∀ y ∈ scope.names, y.2 ≠ .cell) (hkind : scope.kind = .function) (hnames : ∀ y ∈ scope.names, y.2 = .local → scope.names.lookup y.1 = some .local)
    (hw : scope.names.lookup wn = some .local) (hgn : scope.names.lookup gn = some .local) (hne : wn ≠ gn) (hdw : (wn == ("__debug__" : Str)) = false) (hdg : (gn == ("__debug__" : Str)) = false)
    (hs2 : starEach [e1, e2] X.env = (false, eval e1 X.env) :: starEach [e2] X.env) (hpl : (backTo zpos (starEach [e2] X.env)).any (·.1) = false) :
    PE (X.suite a ((a, oe) :: pn)) (.ListComp (.Name wn pe) [⟨.Tuple [.Name wn pa, .Name gn pb] kk pt, .Call (.Name "zip" zp) [e1, e2] [] zpos, [.Name gn gp], 0⟩] scope pos) (tHZ t) := by
  refine ⟨fun pins s σ H Q I h => ?_⟩
  have hclos := closure_ok (scope := scope) (env := X.env) fun y hy e => absurd e (hfree y hy)
  generalize hcl : cloFrom X.env.cells scope.names [] = cl at hclos
  refine ListComp_goes hclos hcell hkind hnames ?_ (fun _ => rfl)
  refine Call_ (ld_blt I hg hm PyProof.Rows.boot_zip (PyProof.Rows.callWith_type1 (thn (ha.run zpos pins s σ H _ I h) fun us s1 hh => ?_) hs2 hpl))
  obtain ⟨vs, H1, I1, r1, a1, a2, ws, bs, ev, q1, q2, hz, q⟩ := hh
  subst ev
  cases r1 with | cons ra rr => ?_
  cases rr with | cons rb rr => ?_
  cases rr; cases ra; cases rb
  obtain ⟨its, v1, p1, _⟩ := I1.list (SqL.of q1)
  obtain ⟨its2, v2, p2, _⟩ := I1.list (SqL.of q2)
  have hl1 := p1.isList
  have hl2 := p2.isList
  have lt1 : a1 < s1.heap.objs.size := by obtain ⟨o, e, _⟩ := hl1; exact Heap.lt_size e
  have lt2 : a2 < s1.heap.objs.size := by obtain ⟨o, e, _⟩ := hl2; exact Heap.lt_size e
  obtain ⟨hget, hna, _⟩ := I1.pin (a, oe) (List.mem_append.mpr (.inl List.mem_cons_self))
  have lt3 : a < s1.heap.objs.size := Heap.lt_size hget
  have hot : HotO a s1.heap := let ⟨vs, d, c⟩ := hctx; ⟨oe, vs, hget, d, c⟩
  have hh : (X.suite a ((a, oe) :: pn)).A.handled = some (.ref a) := rfl
  refine zip_begins2 (begins_list a1 its.toArray) (begins_list a2 its2.toArray) hl1 hl2 fun h₁ hZ hTI hTO hi1 hi2 hz5 hk₁ => wpAny_pyIter_zip hZ ?_
  have e1l : its.length = ws.length := by rw [← v1.length, List.length_map]
  have e2l : its2.length = bs.length := by rw [← v2.length, List.length_map]
  refine ⟨_, _, _, _, _, _, rfl, Goes.zip2 (zip_sep2 (N := s1.heap.objs.size) (fp1 := [a1, a]) (fp2 := [a2, a]) (fun b hb => ?_) (fun b hb => ?_))
      (draws_hot (A := (X.suite a ((a, oe) :: pn)).A.in1) hh _ a1 (Nat.ne_of_lt lt1) (Nat.ne_of_lt lt3) its.toArray) (draws_hot (A := (X.suite a ((a, oe) :: pn)).A.in1) hh _ a2 (Nat.ne_of_lt (Nat.lt_succ_of_lt lt2)) (Nat.ne_of_lt (Nat.lt_succ_of_lt lt3)) its2.toArray),
    ?_, ⟨hZ, hTI, ⟨_, _, hTO⟩, ⟨⟨_, hi1, rfl, rfl⟩, hl1.at fun o e => hk₁ _ o e, hot.keep fun o e => hk₁ _ o e⟩, ⟨⟨_, hi2, rfl, rfl⟩, hl2.at fun o e => hk₁ _ o e, hot.keep fun o e => hk₁ _ o e⟩⟩, ?_, fun Dd C s₃ hB => ?_⟩
  · rcases List.mem_cons.mp hb with e | hb
    · rw [e]; exact lt1
    · rw [List.mem_singleton.mp hb]; exact lt3
  · rcases List.mem_cons.mp hb with e | hb
    · rw [e]; exact lt2
    · rw [List.mem_singleton.mp hb]; exact lt3
  · refine Nat.le_trans (Nat.min_le_left ..) ?_
    have : its.toArray.size = ws.length := by simpa using e1l
    rw [this]
    exact Nat.le_trans hz (by decide)
  · intro b hb
    show b < h₁.objs.size
    rw [hz5]
    exact hot_lt lt1 lt2 lt3 (by simpa using hb)
  · obtain ⟨⟨h₃, tk₃, rfl⟩, old, nD, nC, hDC, hnm⟩ := hB
    have nC' : (s1.heap.objs.size + 5 : Nat) ≤ C := by rw [← hz5]; exact nC
    have nD' : (s1.heap.objs.size + 5 : Nat) ≤ Dd := by rw [← hz5]; exact nD
    have hDC' : (Dd : Nat) ≠ C := hDC
    have kinds : ∀ y, scope.names.lookup y = some .local → (compEnvC scope cl C X.env).kindOf y = some .local := fun y hy => lookup_relabel_local hy
    have hp : ((compEnvC scope cl C X.env).scope.kind == .class || ((compEnvC scope cl C X.env).scope.kind == .module && (compEnvC scope cl C X.env).locals != (compEnvC scope cl C X.env).globals)) = false := by
      show (scope.kind == .class || (scope.kind == .module && _)) = false
      rw [hkind]; rfl
    refine ⟨fun i ys s₁ => ∃ h' tk m, s₁ = { s1 with heap := h', toks := tk } ∧ h'.Ns C m ∧ Vals ((pick (ws.take i) (bs.take i)).map V.str) ys ∧ ∀ b o, s1.heap.get? b = some o → h'.get? b = some o, ⟨h₃, tk₃, _, rfl, hnm, .nil, fun b o e => old b o (hk₁ b o e)⟩, ?_, ?_, ?_⟩
    · rintro i ys s₁ h' tk ⟨h₄, tk₄, m, rfl, n₄, e₄, k₄⟩ hk' _
      have off : ∀ b : Addr, (b < s1.heap.objs.size ∨ b = C) → b ∉ Dd :: [s1.heap.objs.size + 4, s1.heap.objs.size + 3, s1.heap.objs.size, s1.heap.objs.size + 1] := fun b hb hm => hot_off (x1 := 0) (l1 := 0) (l2 := 0) hb nC' nD' hDC' (by simpa using hm)
      exact ⟨h', tk, m, rfl, n₄.at' fun o e => hk' _ o (off _ (.inr rfl)) e, e₄, fun b o e => hk' b o (off _ (.inl (Heap.lt_size e))) (k₄ b o e)⟩
    · rintro i v ys s₁ hi ⟨T, x, y, rfl, hx, hy, hT⟩ st ⟨h₄, tk₄, m, rfl, n₄, e₄, k₄⟩ hpl
      have hi1' : i < ws.length := by rw [← e1l]; have := Nat.lt_of_lt_of_le hi (Nat.min_le_left ..); simpa using this
      have hi2' : i < bs.length := by rw [← e2l]; have := Nat.lt_of_lt_of_le hi (Nat.min_le_right ..); simpa using this
      obtain ⟨x', ex, rx⟩ := vals_get v1 (i := i) (v := .str ws[i]) (by simp [hi1'])
      obtain ⟨y', ey, ry⟩ := vals_get v2 (i := i) (v := .bl bs[i]) (by simp [hi2'])
      have ex' : x = x' := by
        have z : its[i]? = some x := by simpa using hx
        rw [ex] at z; exact (Option.some.inj z).symm
      have ey' : y = y' := by
        have z : its2[i]? = some y := by simpa using hy
        rw [ey] at z; exact (Option.some.inj z).symm
      subst ex' ey'
      have ry' : y = .bool bs[i] := ry
      have hCs : C < h₄.objs.size := by obtain ⟨o, _, _, ho, _⟩ := n₄; exact Heap.lt_size ho
      have hotn : HotO a h₄ := hot.keep fun o e => k₄ _ o e
      refine hot_assign hh hotn hT rfl rfl fun h₅ hs₅ => ?_
      have up₅ : ∀ b o, h₄.get? b = some o → h₅.get? b = some o := fun b o e => hs₅ b o (Nat.ne_of_lt (Heap.lt_size e)) e
      show wpAny _ _ (assignInOrder [assign (.Name wn pa) _, assign (.Name gn pb) _] [x, y]) _ _ _
      refine wpAny_assignInOrder_more (wpAny_assign_Name (wpAny_storeName_local (kinds _ hw) (n₄.at' fun o e => up₅ _ o e) (fun h₆ n₆ s₆ => ?_) hp))
      refine wpAny_assignInOrder_more (wpAny_assign_Name (wpAny_storeName_local (kinds _ hgn) n₆ (fun h₇ n₇ s₇ => wpAny_assignInOrder_none ?_) hp))
      have up₇ : ∀ b o, b ≠ C → h₄.get? b = some o → h₇.get? b = some o := fun b o hb e => s₇.extBut _ _ hb (s₆.extBut _ _ hb (up₅ b o e))
      have offC : ∀ b : Addr, b < s1.heap.objs.size + 5 → b ≠ C := fun b hb => hot_ne hb nC'
      have k₇ : ∀ b o, s1.heap.get? b = some o → h₇.get? b = some o := fun b o e => up₇ b o (offC b (Nat.lt_add_right 5 (Heap.lt_size e))) (k₄ b o e)
      have st₇ : ∀ {i : Nat}, (IsZip h₄ (s1.heap.objs.size + 4) (s1.heap.objs.size + 2) (s1.heap.objs.size + 3) .none ∧ IsTupOf2 h₄ (s1.heap.objs.size + 2) (.ref s1.heap.objs.size) (.ref (s1.heap.objs.size + 1)) ∧ (∃ b1 b2, IsTupOf2 h₄ (s1.heap.objs.size + 3) b1 b2) ∧
          (h₄.IsListIter s1.heap.objs.size a1 i ∧ h₄.IsList a1 its.toArray ∧ HotO a h₄) ∧ (h₄.IsListIter (s1.heap.objs.size + 1) a2 i ∧ h₄.IsList a2 its2.toArray ∧ HotO a h₄)) →
          (IsZip h₇ (s1.heap.objs.size + 4) (s1.heap.objs.size + 2) (s1.heap.objs.size + 3) .none ∧ IsTupOf2 h₇ (s1.heap.objs.size + 2) (.ref s1.heap.objs.size) (.ref (s1.heap.objs.size + 1)) ∧ (∃ b1 b2, IsTupOf2 h₇ (s1.heap.objs.size + 3) b1 b2) ∧
          (h₇.IsListIter s1.heap.objs.size a1 i ∧ h₇.IsList a1 its.toArray ∧ HotO a h₇) ∧ (h₇.IsListIter (s1.heap.objs.size + 1) a2 i ∧ h₇.IsList a2 its2.toArray ∧ HotO a h₇)) := by
        rintro i ⟨z1, z2, ⟨b1, b2, z3⟩, ⟨z4, z5, z8⟩, ⟨z6, z7, _⟩⟩
        have lC : ∀ {k : Nat}, k < 5 → s1.heap.objs.size + k ≠ C := fun {k} hk => offC _ (Nat.add_lt_add_left hk _)
        exact ⟨up₇ _ _ (lC (by decide)) z1, up₇ _ _ (lC (by decide)) z2, ⟨b1, b2, up₇ _ _ (lC (by decide)) z3⟩, ⟨z4.at fun o e => up₇ _ o (lC (k := 0) (by decide)) e, z5.at fun o e => up₇ _ o (offC _ (Nat.lt_add_right 5 lt1)) e, z8.keep fun o e => up₇ _ o (offC _ (Nat.lt_add_right 5 lt3)) e⟩,
          ⟨z6.at fun o e => up₇ _ o (lC (by decide)) e, z7.at fun o e => up₇ _ o (offC _ (Nat.lt_add_right 5 lt2)) e, z8.keep fun o e => up₇ _ o (offC _ (Nat.lt_add_right 5 lt3)) e⟩⟩
      have hpk := pick_take ws bs i hi1' hi2'
      refine wpAny_tests_one (isTrue_plain (wpAny_Name (wpAny_loadName_local hkind (kinds _ hgn) n₇ (v := y) (by simp) ?_) hdg))
      rw [ry']
      refine wpAny_pure ?_
      cases hb : bs[i] with
      | false =>
        rw [if_neg (by simp)]
        rw [hb] at hpk
        refine ⟨⟨h₇, _, _, rfl, n₇, ?_, k₇⟩, st₇ st, hpl.at fun o e => up₇ _ o hDC e⟩
        rw [hpk]; simpa using e₄
      | true =>
        rw [if_pos rfl]
        rw [hb] at hpk
        refine wpAny_Name (wpAny_loadName_local hkind (kinds _ hw) n₇ (v := x) (by simp [hne]) ?_) hdw
        refine ⟨⟨h₇, _, _, rfl, n₇, ?_, k₇⟩, st₇ st, hpl.at fun o e => up₇ _ o hDC e⟩
        rw [hpk, if_pos rfl, List.map_append]
        exact vals_snoc e₄ rx
    · rintro ys s₁ ⟨h₄, tk₄, m, rfl, n₄, e₄, k₄⟩ hpl
      refine ⟨m, n₄, fun h' hs' => ?_⟩
      have nD'' : s1.heap.objs.size ≤ Dd := Nat.le_trans (Nat.le_add_right _ 5) nD'
      have hfr : H1 Dd = none := I1.hok.fresh nD''
      have hall : pick (ws.take (min its.toArray.size its2.toArray.size)) (bs.take (min its.toArray.size its2.toArray.size)) = pick ws bs := by
        refine pick_min ws bs _ ?_
        rw [List.size_toArray, List.size_toArray, e1l, e2l]
        exact Nat.le_refl _
      rw [hall] at e₄
      have kk' : ∀ b o, s1.heap.get? b = some o → h'.get? b = some o := fun b o e => hs'.extBut b o (hot_ne (Nat.lt_add_right 5 (Heap.lt_size e)) nC') (k₄ b o e)
      have J := I1.laid (o := .lst ((pick ws bs).map V.str)) (t' := tk₄) kk' nD'' ⟨(by
        rw [List.length_map]
        exact Nat.le_trans (pick_len ws bs) (Nat.le_trans hz (by decide))), ys, let ⟨n, e⟩ := hpl; ⟨n, e₄, hs'.extBut _ _ hDC e⟩⟩
      exact ⟨.ref Dd, _, J, rfl, q Dd hfr⟩
end
end Dn
/-! Dn part 24: f(lambda: ..), f a def that calls it under try. -/
namespace Dn
open PySem PySem.Spec PyProof.Rows L2
/-- what may leave a lambda's body -/
abbrev lamXe (X : Cx) (A : Around) (outer : List PySem.Env) (s : Shared) (H : Hp) (E : XK) (scope : Scope) (f c' : Addr) : Value → Shared → Prop := fun e s' =>
  wpAny (model X.prog X.w) (A.deeper (LamX.lamEnv X scope s.heap.objs.size f c')) (leaving (LamX.lamEnv X scope s.heap.objs.size f c') e) (fun _ s'' => L2N.CX X.prog X.w outer H s E e s'') (fun e' s'' => L2N.CX X.prog X.w outer H s E e' s'') s'
/-- the context of a lambda's body -/
abbrev lamC (X : Cx) (A : Around) (outer : List PySem.Env) (s : Shared) (H : Hp) (E : XK) (scope : Scope) (f c' : Addr) : Cx := (LamX.lamCx X A outer s H E scope f c').tr [] (lamXe X A outer s H E scope f c')
theorem lam_takes {X : Cx} {A : Around} {outer : List PySem.Env} {s : Shared} {H : Hp} {E : XK} {scope : Scope} {f c' : Addr} : L2N.Takes (lamC X A outer s H E scope f c') (fun c d _ H => E c d H) :=
  L2N.takes_of rfl rfl rfl rfl
section
variable {X : Cx} {pins : List (Addr × Obj)} {σ : L2.St} {H : Hp} {s : Shared}
abbrev lamO (X : Cx) (params : Arguments) (body : Expr) (scope : Scope) (pm : Value) (c' : Addr) (ctv : Value) : Obj := PySem.W.kla_obj "<lambda>" (X.env.qual ++ "<lambda>") params body scope (cloFrom X.env.cells scope.names []) pm c' ctv
abbrev lamF (X : Cx) (params : Arguments) (body : Expr) (scope : Scope) (pm : Value) (c' : Addr) (ctv : Value) : FuncData := PySem.W.kla_fn "<lambda>" (X.env.qual ++ "<lambda>") params body scope (cloFrom X.env.cells scope.names []) pm (.ref c') ctv
theorem act_ok {Eg : XK} {Ng : List Str} {qg : Str} {sg : Scope} {g f c' : Addr} {cdg pm ctv : Value} {params : Arguments} {body : Expr} {scope : Scope} {k i : Nat} {a : Str} {pn : List (Addr × Obj)} {xe : Value → Shared → Prop} {W : WX} {E : XK} {tb : TE} {p1 p2 : Pos}
    (I : Inv X pins σ H s) (L : LamX.LamS X.env.scope scope) (hf : s.heap.get? f = some (lamO X params body scope pm c' ctv)) (hfn : H f = none) (hfr : f ∉ frs X.stack) (hbind : bindArgs (lamF X params body scope pm c' ctv) ⟨[], []⟩ = pure [])
    (tk : L2N.Takes ((cxOf C8.CX0 X.prog X.w X.K X.mg X.base Ng qg sg g cdg X.A X.stack s H Eg).tr pn xe) W) (hW : ∀ cls d σ' H', E cls d H' → W cls d σ' H') (hr : Room (k + 1) (X.A.deeper (envOfC qg sg s.heap.objs.size g cdg)))
    (hbody : ∀ (A : Around) (outer : List PySem.Env) (s : Shared) (H : Hp), Room k (A.deeper (LamX.lamEnv X scope s.heap.objs.size f c')) → PE (lamC X A outer s H E scope f c') body tb) (hN : Ng[i]? = some a) (hv : Vis sg a) (hd : (a == ("__debug__" : Str)) = false) (hcd : (a == ("__classdict__" : Str)) = false) :
    PE ((cxOf C8.CX0 X.prog X.w X.K X.mg X.base Ng qg sg g cdg X.A X.stack s H Eg).tr pn xe) (.Call (.Name a p1) [] [] p2) (fun σZ HZ Q => σZ[i]? = some (some (.ref f)) ∧ HZ c' = some (LamX.CodeO c' (X.env.qual ++ "<lambda>")) ∧ tb σ HZ Q) := by
  refine ⟨fun pinsZ sZ σZ HZ Q IZ ⟨hs, hc, ht⟩ => ?_⟩
  refine wpAny_Call_Name_kw (thn ((pe_var (pos := p1) (i := i) hN hv hd hcd).run pinsZ sZ σZ HZ (fun v H1 => v = .ref f ∧ H1 = HZ) IZ ⟨.ref f, hs, rfl, rfl⟩) fun u s1 ⟨v, H1, I1, r1, ev, eH⟩ => ?_)
  subst ev eH
  obtain rfl : u = Value.ref f := r1
  have of1 : s1.heap.get? f = some (lamO X params body scope pm c' ctv) := I1.base.keep f _ hf hfn hfr (fun z => by cases z)
  refine PySem.W.callWith_F0 ⟨_, _, _, _, of1⟩ ?_
  obtain ⟨⟨oc, vs, t, hoc, hdc, hvc⟩, _, _⟩ := I1.hok c' _ hc
  have run : codeAny (model X.prog X.w) (X.A.deeper (envOfC qg sg s.heap.objs.size g cdg)) (.call (.ref f) ⟨[], []⟩) (CR (L2N.CX X.prog X.w) (envOfC qg sg s.heap.objs.size g cdg :: X.stack) X.prog X.w H1 s1 Q E) s1 := by
    refine PySem.W.kla_callFunE hr.depth of1 rfl L.co L.gen rfl ⟨c', oc, vs, t, rfl, hoc, hdc, hvc⟩ ?_
    rw [hbind]
    refine wpAny_pure (wpAny_newFunctionEnv (fun y hy => (L.own y hy).2) (fun y hy => absurd hy (by simp)) (fun h₁ hns hsb => ⟨I1.nolimit.fresh _ hsb, ?_⟩) L.kind)
    have kp : ∀ b o, s1.heap.get? b = some o → h₁.get? b = some o := fun b o e => hsb.extBut b o (Nat.ne_of_lt (Heap.lt_size e)) (Heap.get?_push_of_some _ e)
    have J0 := LamX.lam_start2 (A := X.A.deeper (envOfC qg sg s.heap.objs.size g cdg)) (outer := envOfC qg sg s.heap.objs.size g cdg :: X.stack) (E := E) (f := f) (c' := c') (tk := s1.toks + ([] : List (Str × Value)).length) I L I1.env0 hr.hd I1.base hns kp
    have J := J0.toTry (lamXe X (X.A.deeper (envOfC qg sg s.heap.objs.size g cdg)) (envOfC qg sg s.heap.objs.size g cdg :: X.stack) s1 H1 E scope f c')
    refine PySem.W.kla_codeExpr (wpAny_mono ((hbody _ _ s1 H1 (hr.deeper _)).run [] _ _ H1 Q J ht) (fun v s' hq => ?_) fun e s' hq => hq)
    obtain ⟨w', H', J', rv, q⟩ := hq
    exact ⟨w', H', J'.os, J'.bare, J'.base, J'.hok, rv, q⟩
  refine wpAny_call (codeAny_mono run fun r s' hq => ?_)
  cases r with
  | error e => exact L2N.passes_call tk hW pinsZ σZ H1 s1 e s' I1 hq
  | ok fl =>
    cases fl with
    | ret u => exact I1.after hq
    | next => exact False.elim hq
    | brk => exact False.elim hq
    | cont => exact False.elim hq
/-- a def that takes a lambda: what it comes to by what the lambda comes to -/
def Giv (X : Cx) (Ng : List Str) (x : Str) (sg : Scope) (g : Addr) (cdg : Value) (bg : List Stmt) (a : Str) (q : Str) (TT : (XK → Hp → VK → Prop) → Hp → VK → Prop) : Prop :=
  ∀ (f c' : Addr) (s : Shared) (H : Hp) (Q : VK) (tl : XK → Hp → VK → Prop), Room 1 (X.A.deeper (envOfC x sg s.heap.objs.size g cdg)) →
    (∀ (W : WX) (pn : List (Addr × Obj)) (xe : Value → Shared → Prop) (E : XK) (p1 p2 : Pos), L2N.Takes ((cxOf C8.CX0 X.prog X.w X.K X.mg X.base Ng x sg g cdg X.A X.stack s H C8.E0).tr pn xe) W → (∀ cls d σ' H', E cls d H' → W cls d σ' H') →
      PE ((cxOf C8.CX0 X.prog X.w X.K X.mg X.base Ng x sg g cdg X.A X.stack s H C8.E0).tr pn xe) (.Call (.Name a p1) [] [] p2) (fun σZ HZ Q => σZ[0]? = some (some (.ref f)) ∧ HZ c' = some (LamX.CodeO c' q) ∧ tl E HZ Q)) →
    H c' = some (LamX.CodeO c' q) → TT tl H Q →
    ∃ t, PSs (cxOf C8.CX0 X.prog X.w X.K X.mg X.base Ng x sg g cdg X.A X.stack s H C8.E0).nox bg t ∧ t { nx := fun _ H' => Q .non H', rt := Q } (L2.start Ng [.ref f]) H
end
end Dn
/-! Dn part 25: split and join; what stands in an except suite. -/
namespace Dn
open PySem PySem.Spec PyProof.Rows L2
section
variable {X : Cx} {W : WX} {K : PySem.W.Frag} {w w1 w' : Wd} {σ : L2.St} {H H1 H' : Hp} {ρ : Env} {η η1 η' : Store} {fa fb fc f : FE} {fA : FA}
def strsOf : List D → Option (List Str)
  | [] => some []
  | .str x :: r => (strsOf r).map (x :: ·)
  | _ :: _ => none
theorem strs_ok : ∀ {vs : List V} {ds : List D} {xs : List Str}, RepVs K w H vs ds → strsOf ds = some xs → vs = xs.map V.str ∧ ds = xs.map D.str
  | _, _, _, .nil, h => by cases h; exact ⟨rfl, rfl⟩
  | _, _, _, .cons (d := d) (ds := ds) r rs, h => by
    cases d with
    | str x =>
      have h' : (strsOf ds).map (x :: ·) = some _ := h
      cases e : strsOf ds with
      | none => rw [e] at h'; cases h'
      | some ys =>
        rw [e] at h'; cases h'
        obtain ⟨e1, e2⟩ := strs_ok rs e
        cases r
        rw [e1, e2]; exact ⟨rfl, rfl⟩
    | _ => cases h
theorem strs_map : ∀ xs : List Str, strsOf (xs.map D.str) = some xs
  | [] => rfl
  | x :: xs => by
    show (strsOf (xs.map D.str)).map (x :: ·) = _
    rw [strs_map xs]; rfl
theorem strs_rep : ∀ (xs : List Str), RepVs K w H (xs.map V.str) (xs.map D.str)
  | [] => .nil
  | x :: xs => .cons (.str x) (strs_rep xs)
def splitD : D → GL := fun d ds η => match d, ds with
  | .str a, [.str b] => if (b.length == 0) = false ∧ a.length + 2 ≤ sizeLine then some (.lst ((Txt.split a b).map .str), η) else none
  | _, _ => none
theorem mtD_split : MtR X "str.split" (rdM X.K splitD) := mt_of (id := "str.split") mt_split fun {x xs H Q w η d ds z η'} hr q r h p => by
  unfold splitD at h
  split at h
  · rename_i a b
    split at h
    · rename_i hz
      cases h; cases q
      cases r with | cons r1 r2 => ?_
      cases r2; cases r1
      exact ⟨_, _, rfl, rfl, hz.1, hz.2, fun q hq => lst_of p hr (strs_rep _) hq⟩
    · cases h
  · cases h
def joinD : D → GL := fun d ds η => match d, ds with
  | .str a, [x] => (match seqL x η with
    | some xs => (match strsOf xs with
      | some ys => if (ys.map (·.length)).sum + ys.length * a.length ≤ 16777216 then some (.str (Txt.join a ys), η) else none
      | none => none)
    | none => none)
  | _, _ => none
theorem mtD_join : MtR X "str.join" (rdM X.K joinD) := mt_of (id := "str.join") mt_join fun {x xs H Q w η d ds z η'} hr q r h p => by
  unfold joinD at h
  split at h
  · rename_i a x
    split at h
    · rename_i ys es
      split at h
      · rename_i zs ez
        split at h
        · rename_i hz
          cases h; cases q
          cases r with | cons r1 r2 => ?_
          cases r2
          obtain ⟨b, us, rfl, s, ru⟩ := seqL_ok hr r1 es
          obtain ⟨e1, _⟩ := strs_ok ru ez
          subst e1
          exact ⟨_, _, _, rfl, rfl, .inl s, hz, val_of p hr (.str _)⟩
        · cases h
      · cases h
    · cases h
  · cases h
/-! ### in an except suite -/
/-- isinstance(error, c), the answer known -/
def isA (a : Addr) (b : Bool) : G1 := fun d η => match d with
  | .adr x => if x = a then some (.bl b, η) else none
  | _ => none
@[simp] theorem isA_adr {a : Addr} {b : Bool} : isA a b (.adr a) η = some (.bl b, η) := by unfold isA; exact if_pos rfl
/-- what the classes say -/
def excCB (K : PySem.W.Frag) (x : Str) : Bool := decide (PySem.W.findIn K (.ref (He.ga K x)) "__getattribute__" = some (some (.builtin "BaseException.__getattribute__"))) && (decide (PySem.W.findIn K (.ref (He.ga K x)) "__getattr__" = some none) &&
  (decide (PySem.W.subIn K (.ref (He.ga K x)) (.type "BaseException") = some true) && (PySem.W.hasDictIn K (He.ga K x) && (decide (PySem.W.findIn K (.ref (He.ga K x)) "__class__" = some (some (.builtin "object.__class__"))) &&
  (decide (PySem.W.specialIn K (.builtin "object.__class__") "__get__" = some (some (.builtin "getset_descriptor.__get__"))) && (decide (PySem.W.takesIn K (.builtin "object.__class__") = some true) && decide (PySem.W.mroIn K (He.ga K x) (.type "object") = some true)))))))
theorem excC_of {x : Str} (h : excCB K x = true) : ExcC K (He.ga K x) := by
  unfold excCB at h
  simp only [Bool.and_eq_true, decide_eq_true_eq] at h
  obtain ⟨h1, h2, h3, h4, h5, h6, h7, h8⟩ := h
  exact ⟨h1, h2, h3, h4, h5, h6, h7, h8⟩
def kitB (K : PySem.W.Frag) (x c : Str) (b : Bool) : Bool := decide (PySem.W.kitOne K (.ref (He.ga K x)) (.ref (He.ga K c)) = some b)
variable {a : Addr} {oe : Obj} {pn : List (Addr × Obj)} {pos p pe pc : Pos} {i : Nat}
theorem de_isE {x c en : Str} {b : Bool} (C : ExcC X.K (He.ga X.K x)) (hz : Zc (.ref (He.ga X.K x)) none oe) (hf : ∃ vs, oe.data = .fields vs) (hk : kitB X.K x c b = true) (hm : X.mg "isinstance" = none) (hc : X.mg c = some (.ref (He.ga X.K c)))
    (he : DE (X.suite a ((a, oe) :: pn)) W (.Name en pe) (gv i)) (hg : Gl X "isinstance" := by rfl) (hgc : Gl X c := by rfl) (hdc : (c == ("__debug__" : Str)) = false := by decide)
    (h1 : starEach [.Name en pe, .Name c pc] X.env = (false, eval (.Name en pe) X.env) :: starEach [.Name c pc] X.env := by rfl) (h2 : starEach [.Name c pc] X.env = (false, eval (.Name c pc) X.env) :: starEach [] X.env := by rfl)
    (hpl : (backTo pos (starEach [.Name c pc] X.env)).any (·.1) = false := by rfl) :
    DE (X.suite a ((a, oe) :: pn)) W (.Call (.Name "isinstance" p) [.Name en pe, .Name c pc] [] pos) (e1 (isA a b) (gv i)) := by
  have ha : DA (X.suite a ((a, oe) :: pn)) W [.Name en pe, .Name c pc] (aCons (gv i) (aCons (cst (.gl c)) aNil)) := da_cons he (da_cons (de_gl (X := X.suite a ((a, oe) :: pn)) hc hgc hdc) da_nil h2) h1
  refine PE.imp (pe_callB (X := X.suite a ((a, oe) :: pn)) (call_isE C hz hf) hg hm (by rfl) ha (by decide) (by decide) h1 hpl) fun σ H Q ⟨w, ρ, η, rel, q⟩ => ⟨w, ρ, η, rel, ?_⟩
  unfold e1 at q
  unfold aCons gv cst aNil
  unfold gv at q
  cases e : ρ[i]? with
  | none => rw [e] at q; exact q.elim
  | some o =>
    cases o with
    | none => rw [e] at q; exact q.elim
    | some d =>
      rw [e] at q
      cases d with
      | adr y =>
        by_cases hy : y = a
        · subst hy
          intro vs w' H' ex hr rv
          cases rv with | cons r1 rr => ?_
          cases rr with | cons r2 rr => ?_
          cases rr; cases r1; cases r2
          have q' : Post X.K (RepV X.K) w H Q (fun c d H' => W c d σ H') (liftO (isA y b (.adr y) η)) := q
          rw [isA_adr] at q'
          exact ⟨_, _, b, rfl, fun u hu => hu, of_decide_eq_true hk, q' _ w' H' ex hr (.bl b)⟩
        · have q' : Post X.K (RepV X.K) w H Q (fun c d H' => W c d σ H') (liftO (isA a b (.adr y) η)) := q
          have e0 : isA a b (.adr y) η = none := by unfold isA; exact if_neg hy
          rw [e0] at q'
          exact q'.elim
      | _ => exact (show False from q).elim
/-- [word for word, good in zip(words, marks) if good] -/
def hz (fA : FA) : FE := fun ρ η => (fA ρ η).bind fun ds η => match ds with
  | [x, y] => (match lstOf x η, lstOf y η with
    | some xs, some ys => (match strsOf xs, boolsOf ys with
      | some ws, some bs => if ws.length ≤ 1000 then .ok (.lst ((pick ws bs).map .str)) η else .no
      | _, _ => .no)
    | _, _ => .no)
  | _ => .no
theorem hz_reads {Q : VK} (h : rdE K W (hz fA) σ H Q) : tHZ (rdA K W fA) σ H Q := by
  obtain ⟨w, ρ, η, rel, q⟩ := h
  obtain ⟨w, ρ, η, rel, q⟩ := rdA_then rel q
  refine ⟨w, ρ, η, rel, q.imp fun vs H1 ⟨w1, ds, η1, ex, rel1, rv, p1⟩ => ?_⟩
  split at p1
  case h_2 => exact p1.elim
  rename_i x y
  split at p1
  case h_2 => exact p1.elim
  rename_i xs ys ex1 ex2
  split at p1
  case h_2 => exact p1.elim
  rename_i ws bs es eb
  split at p1
  case isFalse => exact p1.elim
  rename_i hl
  cases rv with | cons rv1 rr => ?_
  cases rr with | cons rv2 rr => ?_
  cases rr
  obtain ⟨a1, us, rfl, h1, ru⟩ := lstOf_ok rel1.heap rv1 ex1
  obtain ⟨a2, us2, rfl, h2, ru2⟩ := lstOf_ok rel1.heap rv2 ex2
  obtain ⟨e3, _⟩ := strs_ok ru es
  have e4 := bools_ok ru2 eb
  subst e3 e4
  exact ⟨a1, a2, ws, bs, rfl, h1, h2, hl, fun p hp => lst_of p1 rel1.heap (strs_rep _) hp⟩
variable {e1' e2' : Expr} {wn gn : Str} {p1 p2 p3 p4 p5 p6 p7 : Pos} {kk : Nat} {scope : Scope}
theorem de_hz (hctx : ∃ vs : Array Value, oe.data = .fields vs ∧ vs[2]? = some .none) (hm : X.mg "zip" = none) (ha : DA (X.suite a ((a, oe) :: pn)) W [e1', e2'] fA)
    (hsc : (scope.names.all fun y => !decide (y.2 = .free) && !decide (y.2 = .cell) && (!decide (y.2 = .local) || decide (scope.names.lookup y.1 = some .local))) = true := by decide) (hkind : scope.kind = .function := by rfl)
    (hw : scope.names.lookup wn = some .local := by rfl) (hgn : scope.names.lookup gn = some .local := by rfl) (hne : wn ≠ gn := by decide) (hdw : (wn == ("__debug__" : Str)) = false := by decide) (hdg : (gn == ("__debug__" : Str)) = false := by decide)
    (hg : Gl X "zip" := by rfl) (hs2 : starEach [e1', e2'] X.env = (false, eval e1' X.env) :: starEach [e2'] X.env := by rfl) (hpl : (backTo p5 (starEach [e2'] X.env)).any (·.1) = false := by rfl) :
    DE (X.suite a ((a, oe) :: pn)) W (.ListComp (.Name wn p1) [⟨.Tuple [.Name wn p2, .Name gn p3] kk p4, .Call (.Name "zip" p6) [e1', e2'] [] p5, [.Name gn p7], 0⟩] scope pos) (hz fA) := by
  have hsc' : ∀ y ∈ scope.names, y.2 ≠ .free ∧ y.2 ≠ .cell ∧ (y.2 = .local → scope.names.lookup y.1 = some .local) := fun y hy => by
    have h := List.all_eq_true.mp hsc y hy
    simp only [Bool.and_eq_true, Bool.or_eq_true, Bool.not_eq_true', decide_eq_true_eq, decide_eq_false_iff_not] at h
    exact ⟨h.1.1, h.1.2, fun e => h.2.elim (fun z => absurd e z) id⟩
  refine PE.imp (pe_hotzip hctx hm hg ha (fun y hy => (hsc' y hy).1) (fun y hy => (hsc' y hy).2.1) hkind (fun y hy => (hsc' y hy).2.2) hw hgn hne hdw hdg hs2 hpl) fun σ H Q h => hz_reads h
end
end Dn
/-! Dn part 26: told of a lambda's call. -/
namespace Dn
open PySem PySem.Spec PyProof.Rows L2
/-- what a def tells that calls a lambda under try: m by the error's class, c without an error -/
def told (m : Str → Option D) (c : D) : R D → R D
  | .ok _ η => .ok c η
  | .exc ⟨x, none⟩ η => (match m x with
    | some d => .ok d η
    | none => .no)
  | _ => .no
def eTold (m : Str → Option D) (c : D) (fb : FE) : FE := fun ρ η => told m c (fb ρ η)
section
variable {X : Cx} {W : WX} {K : PySem.W.Frag} {w w1 w' : Wd} {σ : L2.St} {H H1 H' : Hp} {ρ : Env} {η η1 η' : Store} {fa fb fc f : FE} {fA : FA}
/-- the answer d may be given in the world w and whatever follows -/
def Ans (K : PySem.W.Frag) (Q : VK) (d : D) (H : Hp) : Prop := ∃ w η, HeapRel K w H η ∧ ∀ v w' H', Ext w H w' H' → HeapRel K w' H' η → RepV K w' H' v d → Q v H'
/-- what the wish comes to at the def's try -/
def TTw (K : PySem.W.Frag) (m : Str → Option D) (c : D) : (XK → Hp → VK → Prop) → Hp → VK → Prop := fun tl H Q =>
  tl (fun cls d H' => ∃ x y, cls = .ref (He.ga K x) ∧ d = none ∧ m x = some y ∧ Ans K Q y H') H (fun _ H' => Ans K Q c H')
theorem tt_of {m : Str → Option D} {c : D} {Q : VK} (rel : Rel K w σ H ρ η) (p : Post K (RepV K) w H Q (fun c d H' => W c d σ H') (told m c (fb ρ η))) : TTw K m c (fun E H' Q' => rdE K (fun c d _ H => E c d H) fb σ H' Q') H Q := by
  refine ⟨w, ρ, η, rel, ?_⟩
  cases e : fb ρ η with
  | ok d η1 =>
    rw [e] at p
    exact fun v w' H' ex hr rv => ⟨w', η1, hr, fun v' w2 H2 ex2 hr2 rv2 => p v' w2 H2 (ex.trans ex2) hr2 rv2⟩
  | exc x η1 =>
    rw [e] at p
    obtain ⟨x, fs⟩ := x
    cases fs with
    | some fs => exact p.elim
    | none =>
      have p' : Post K (RepV K) w H Q (fun c d H' => W c d σ H') (match m x with | some d => R.ok d η1 | none => .no) := p
      cases em : m x with
      | none => rw [em] at p'; exact p'.elim
      | some y =>
        rw [em] at p'
        exact fun cls d w' H' ex hr rx => ⟨x, y, rx.1, rx.2, em, w', η1, hr, fun v' w2 H2 ex2 hr2 rv2 => p' v' w2 H2 (ex.trans ex2) hr2 rv2⟩
  | no => rw [e] at p; exact p.elim
/-- tables more, all else as it was -/
theorem Rel.tabs (rel : Rel K w σ H ρ η) (e : LamX.ExtN H H1) (t : LamX.Tabs (lamT K) H1) : Ext w H w H1 ∧ Rel K w σ H1 ρ η := by
  have ex : Ext w H w H1 := ⟨⟨⟨[], by simp⟩, fun a o h k n m => ⟨e a o h k, n, m⟩⟩, fun a ha => ⟨ha, by
    obtain ⟨_, u, h, k⟩ := rel.heap.bz a ha
    rw [h, e a u h k.1]⟩, fun a od u h => e a _ h nt_frz⟩
  refine ⟨ex, rel.env.ext ex, rel.heap.len, rel.heap.nd, fun i a o ha ho => ?_, fun a ha => ?_, t⟩
  · have r := rel.heap.at_ i a o ha ho
    obtain ⟨u, h, k⟩ := repO_ny r
    exact r.ext ex (by rw [h, e a u h k.1])
  · obtain ⟨n, u, h, k⟩ := rel.heap.bz a ha
    exact ⟨n, u, e a u h k.1, k⟩
variable {x a x0 : Str} {g c P : Addr} {k : Nat} {pg params : Arguments} {bg : List Stmt} {sg scope : Scope} {fdg : FuncData} {Ng : List Str} {body : Expr} {m : Str → Option D} {d : D} {p lpos pos : Pos}
/-- x(lambda: body), made in the def x0 -/
theorem de_lam (hg : Gl X x) (hm : X.mg x = some (.ref g)) (Fg : FunD X.K x x pg bg sg [] [] g fdg) (hb : L2.Binds X.K fdg [a] []) (Sg : FnScope Ng [a] sg) (hNg : Ng[0]? = some a) (hva : Vis sg a)
    (hG : ∀ cdg, Giv X Ng x sg g cdg bg a (X.env.qual ++ "<lambda>") (TTw X.K m d)) (hx0 : x0 ∈ lamNames) (hon : lamOn X.K x0 = true) (hinj : ∀ p ∈ lamT X.K, ∀ q ∈ lamT X.K, p.1 = q.1 → p.2 = q.2)
    (TB : LamX.TabB X.base X.mg (He.cT X.K (x0, none)).1 (He.cT X.K (x0, none)).2) (hcode : X.env.code = .ref (He.cT X.K (x0, none)).1) (hq : X.env.qual ++ "<lambda>" = x0 ++ ".<locals>." ++ "<lambda>") (hr : Room (k + 2) X.A) (L : LamX.LamS X.env.scope scope)
    (hdef : defaultsOf params X.env = ([], [])) (hbind : ∀ (q : Str) (cl : List (Str × Addr)) (pm cv ctv : Value), bindArgs (PySem.W.kla_fn "<lambda>" q params body scope cl pm cv ctv) ⟨[], []⟩ = pure [])
    (hbody : ∀ (A : Around) (outer : List PySem.Env) (s : Shared) (H : Hp) (E : XK) (f c' : Addr), Room k (A.deeper (LamX.lamEnv X scope s.heap.objs.size f c')) → DE (lamC X A outer s H E scope f c') (fun c d _ H => E c d H) body fb)
    (hdb : (x == ("__debug__" : Str)) = false) (hd : (a == ("__debug__" : Str)) = false) (hcd : (a == ("__classdict__" : Str)) = false) :
    DE X W (.Call (.Name x p) [.Lambda params body scope lpos] [] pos) (eTold m d fb) := by
  refine ⟨fun pins s σ H Q I ⟨w, ρ, η, rel, pp⟩ => ?_⟩
  have hmT : ((He.cT X.K (x0, none)).2, X.env.qual ++ "<lambda>") ∈ lamT X.K := by
    rw [hq]
    exact List.mem_map.mpr ⟨x0, List.mem_filter.mpr ⟨hx0, hon⟩, rfl⟩
  obtain ⟨oc, od, dV, kV, doc, pm, an, cdv, ct, osl, rfl, lk, hcg, _, _⟩ := Fg.ex
  refine wpAny_Call_Name_kw (ld_glob I hg hm ?_ hdb)
  refine PySem.W.callWith_K (h₀ := X.base) I.ok.mod.kin Fg.kp ?_ (by rfl) (by rfl)
  show wpAny _ _ (spliced ((false, eval (.Lambda params body scope lpos) X.env) :: backTo pos (starEach [] X.env))) _ _ s
  refine Calls.spliced_cons (LamX.lam_make2 I TB hcode hmT (fun q hq e => (hinj _ hq _ hmT e)) rel.heap.tb hdef (L.has I.ok) fun f c' pm' ctv H1 s' I1 eN T1 hf hfn hfr hco => ?_)
  refine Calls.spliced_nil ⟨I1.kIn, ?_⟩
  obtain ⟨ex, rel1⟩ := rel.tabs eN T1
  have run : codeAny (model X.prog X.w) X.A (.call (.ref g) ⟨[.ref f], []⟩) (CR C8.CX0 X.stack X.prog X.w H1 s' Q C8.E0) s' := by
    refine LamX.run_ofS (N := Ng) (ps := [a]) (us := [.ref f]) (vs := [.ref f]) lk hcg Sg hr I1.env0 (hb s' [.ref f] I1.kIn rfl) (.cons rfl .nil) rfl fun hr' => ?_
    obtain ⟨t', ht', hq'⟩ := hG cdv f c' s' H1 Q (fun E H' Q' => rdE X.K (fun c d _ H => E c d H) fb σ H' Q') (hr'.mono (by omega)) (fun W pn xe E p1 p2 tk hW => act_ok (i := 0) I1 L hf hfn hfr (hbind _ _ _ _ _) tk hW hr' (fun A outer s H hr2 => hbody A outer s H E f c' hr2) hNg hva hd hcd) hco (tt_of rel1 (Post.weak ex pp))
    exact ⟨t', ht'.nox, hq'⟩
  refine wpAny_call (codeAny_mono run fun r s2 hq => ?_)
  cases r with
  | error e => exact (show False from hq).elim
  | ok fl =>
    cases fl with
    | ret u => exact I1.after hq
    | next => exact False.elim hq
    | brk => exact False.elim hq
    | cont => exact False.elim hq
end
end Dn
/-! Dn part 27: defs that call a lambda under try. -/
namespace Dn
open PySem PySem.Spec PyProof.Rows L2
section
variable {X : Cx} {K : PySem.W.Frag} {w w' : Wd} {σ : L2.St} {H H' : Hp} {η η' : Store}
theorem env_none : EnvRel K w σ H (List.replicate σ.length none) := ⟨by simp, fun i d e => by
  rw [List.getElem?_replicate] at e
  split at e <;> cases e⟩
/-- an answer behind things that are forgotten -/
theorem Ans.post {Q : VK} {d : D} {l : Store} {WS : WX} {E : Ends} (hE : E.rt = Q) (hl : ∀ n, D.low n d = true) (hr : HeapRel K w H η) (q : ∀ v w' H', Ext w H w' H' → HeapRel K w' H' η → RepV K w' H' v d → Q v H') : PostS K w H E WS (.ret d (η ++ l)) := by
  intro v w' H' e hr' rv
  rw [hE]
  have h2 := hr.cut e hr' (keepS_app η l)
  rw [List.take_left'] at h2
  · exact q v _ H' (e.cut hr) h2 (rv.cut _ (hl _))
  · rfl
theorem pe_wk {e : Expr} {t : TE} (he : PE X e t) : PE X e (fun σ H Q => ∃ Q' : VK, (∀ v H, Q' v H → Q v H) ∧ t σ H Q') :=
  ⟨fun pins s σ H Q I ⟨Q', m, h⟩ => thn (he.run pins s σ H Q' I h) fun v s1 ⟨x, H1, I1, r, q⟩ => ⟨x, H1, I1, r, m _ _ q⟩⟩
variable {Ng : List Str} {x a n en q : Str} {sg : Scope} {g : Addr} {cdg : Value} {i : Nat} {b₀ : Stmt} {suite : List Stmt} {rc : Expr} {p1 p2 p3 p4 p5 p6 p7 : Pos} {m : Str → Option D} {c : D} {fc : FE}
/-- try: a() / except en as n: suite / return rc -/
theorem giv_ok (hN : Ng.Nodup) (hi : Ng[i]? = some n) (hln : sg.names.lookup n = some .local) (hge : sg.names.lookup en = some .globalImplicit) (hme : X.mg en = some (.ref (He.ga X.K en))) (hde : (en == ("__debug__" : Str)) = false)
    (hex : ∀ y d, m y = some d → PySem.W.exmOne X.K (.ref (He.ga X.K y)) (.ref (He.ga X.K en)) = some true) (hlo : ∀ y d, m y = some d → ∀ n, D.low n d = true)
    (hsu : ∀ (s : Shared) (H : Hp), Room 1 (X.A.deeper (envOfC x sg s.heap.objs.size g cdg)) → ∀ (y : Str) (d : D), m y = some d → ∀ (a : Addr) (oe : Obj) (pn : List (Addr × Obj)), L2N.Zn (.ref (He.ga X.K y)) none oe → (∃ vs, oe.data = .fields vs) →
      ∃ fs : FS, DSs ((cxOf C8.CX0 X.prog X.w X.K X.mg X.base Ng x sg g cdg X.A X.stack s H C8.E0).nox.suite a ((a, oe) :: pn)) WF (b₀ :: suite) fs ∧ ∀ η, ∃ l, fs ((List.replicate Ng.length none).set i (some (.adr a))) η = .ret d (η ++ l))
    (hrc : ∀ (s : Shared) (H : Hp), Room 1 (X.A.deeper (envOfC x sg s.heap.objs.size g cdg)) → DE (cxOf C8.CX0 X.prog X.w X.K X.mg X.base Ng x sg g cdg X.A X.stack s H C8.E0).nox WF rc fc) (hfc : ∀ ρ η, fc ρ η = .ok c η)
    (h0 : ∀ f : Addr, (L2.start Ng [V.ref f])[0]? = some (some (V.ref f))) :
    Giv X Ng x sg g cdg [.Try [.Expr (.Call (.Name a p1) [] [] p2) p3] [.ExceptHandler (some (.Name en p4)) (some n) (b₀ :: suite) p5] [] [] p6, .Return (some rc) p7] a q (TTw X.K m c) := by
  intro f c' s H Q tl hroom act hc h
  have hgl : Gl (cxOf C8.CX0 X.prog X.w X.K X.mg X.base Ng x sg g cdg X.A X.stack s H C8.E0).nox en := hge
  refine ⟨_, pss_cons (L2N.ps_try_as (X := (cxOf C8.CX0 X.prog X.w X.K X.mg X.base Ng x sg g cdg X.A X.stack s H C8.E0).nox) (c := .ref (He.ga X.K en)) (i := i) (Wout := fun _ _ _ _ => False)
      (tb := fun W D σ H => ∃ (Ech : XK) (Q' : VK), (∀ cls d σ' H', Ech cls d H' → W cls d σ' H') ∧ (∀ v H', Q' v H' → D.nx σ H') ∧ σ[0]? = some (some (.ref f)) ∧ H c' = some (LamX.CodeO c' q) ∧ tl Ech H Q')
      (ts := fun a cls dd D' σ H => ∃ (σ0 : L2.St) (y : Str) (d : D), σ = σ0.set i (some (.ref a)) ∧ cls = .ref (He.ga X.K y) ∧ dd = none ∧ m y = some d ∧ Ans X.K D'.rt d H)
      rfl rfl hN hi hln ⟨hgl, hde, .inl hme⟩ tk0 (fun W pn xe tk _ => ?_) (fun a oe cls d pn hz hf => ?_)) (pss_one (ps_ret (hrc s H hroom))), ?_⟩
  · refine ⟨fun pins s' σ H' D I ⟨Ech, Q', hW, hQ, h1, h2, h3⟩ => ?_⟩
    exact (pss_one (ps_expr (pos := p3) (pe_wk (act W pn xe Ech p1 p2 tk hW)))).run pins s' σ H' D I ⟨Q', fun v H h => hQ v H h, h1, h2, h3⟩
  · refine ⟨fun pins s' σ H' D I ⟨σ0, y, dv, es, ec, ed, my, w, η, hr, qa⟩ => ?_⟩
    subst ec ed
    obtain ⟨fs, hfs, hev⟩ := hsu s H hroom y dv my a oe pn hz hf
    have hlen : σ0.length = Ng.length := by
      have := I.len
      rw [es, List.length_set] at this
      exact this
    obtain ⟨l, el⟩ := hev η
    refine hfs.run pins s' σ H' D I ⟨w, (List.replicate Ng.length none).set i (some (.adr a)), η, ⟨?_, hr⟩, ?_⟩
    · rw [es]
      have := (env_none (K := X.K) (w := w) (σ := σ0) (H := H')).set (i := i) (RepV.adr a)
      rw [hlen] at this
      exact this
    · rw [el]
      exact Ans.post rfl (hlo y dv my) hr qa
  · refine ⟨fun cls d H' => ∃ x y, cls = .ref (He.ga X.K x) ∧ d = none ∧ m x = some y ∧ Ans X.K Q y H', fun _ H' => Ans X.K Q c H',
      fun cls d σ' H' ⟨y, dv, e1, e2, e3, e4⟩ => ⟨true, by rw [e1]; exact hex y dv e3, fun _ a _ => ⟨σ', y, dv, rfl, e1, e2, e3, e4⟩, fun z => by cases z⟩, fun v H' ⟨w, η, hr, qa⟩ => ?_, h0 f, hc, h⟩
    refine ⟨w, _, η, ⟨env_none, hr⟩, ?_⟩
    rw [hfc]
    exact qa
end
end Dn
/-! Dn part 28: a local name that holds a def; the maker's code object. -/
namespace Dn
open PySem PySem.Spec PyProof.Rows L2
def eCallV (T : Str → Option (Nat × FF)) (i : Nat) (fA : FA) : FE := fun ρ η => match ρ[i]? with
  | some (some (.gl x)) => (match T x with
    | some (n, F) => eCall n F fA ρ η
    | none => .no)
  | _ => .no
section
variable {X : Cx} {W : WX} {e : Expr} {es : List Expr} {pos p : Pos} {fA : FA}
theorem de_callV {y : Str} {i k : Nat} {T : Str → Option (Nat × FF)} (A : ∀ x n F, T x = some (n, F) → FOk X.prog X.w X.K X.mg X.base k x n F) (tk : L2N.Takes X W) (hr : Room k X.A) (ha : DA X W (e :: es) fA)
    (hN : X.N[i]? = some y := by rfl) (hv : Vis X.env.scope y := by first | exact Or.inl rfl | exact Or.inr (Or.inl rfl) | exact Or.inr (Or.inr rfl))
    (hdb : (y == ("__debug__" : Str)) = false := by decide) (hcd : (y == ("__classdict__" : Str)) = false := by decide)
    (he : starEach (e :: es) X.env = (false, eval e X.env) :: starEach es X.env := by rfl) (hpl : (backTo pos (starEach es X.env)).any (·.1) = false := by rfl) :
    DE X W (.Call (.Name y p) (e :: es) [] pos) (eCallV T i fA) := by
  refine ⟨fun pins s σ H Q I ⟨w, ρ, η, rel, pp⟩ => ?_⟩
  unfold eCallV at pp
  cases eρ : ρ[i]? with
  | none => rw [eρ] at pp; exact pp.elim
  | some o =>
    cases o with
    | none => rw [eρ] at pp; exact pp.elim
    | some d =>
      rw [eρ] at pp
      cases d with
      | gl x =>
        cases eT : T x with
        | none => simp only [eT] at pp; exact pp.elim
        | some q =>
          obtain ⟨n, F⟩ := q
          simp only [eT] at pp
          have FO := A x n F eT
          obtain ⟨fd, ps, a, b⟩ := FO.ok
          obtain ⟨v, hs, rv⟩ := rel.env.at_ i _ eρ
          cases rv
          refine wpAny_Call_Name_kw (thn ((pe_var (pos := p) hN hv hdb hcd).run pins s σ H (fun v H1 => v = .ref (He.ga X.K x) ∧ H1 = H) I ⟨_, hs, rfl, rfl⟩) fun u s1 ⟨v, H1, I1, r1, q1⟩ => ?_)
          obtain ⟨rfl, rfl⟩ := q1
          cases r1
          have ht : rdA X.K W fA σ H1 (fun vs H2 => spD X.K n F vs H2 Q (fun c d H' => W c d σ H')) := by
            obtain ⟨w, ρ, η, rel, q⟩ := rdA_then rel pp
            refine ⟨w, ρ, η, rel, q.imp fun vs H1 ⟨w1, ds, η1, e, rel1, rv, p1⟩ => ?_⟩
            split at p1
            · rename_i hl
              exact ⟨w1, η1, ds, rel1.heap, rv, hl, p1⟩
            · exact p1.elim
          refine PySem.W.callWith_K (h₀ := X.base) I.ok.mod.kin FO.kp (thn (ha.run pos pins s1 σ _ _ I1 ht) fun us s2 ⟨vs, H2, I2, r, q⟩ => ⟨I2.kIn, ?_⟩) he hpl
          exact run_fnS (E := fun σ c d H' => W c d σ H') a hr b (L2N.passAt tk σ) I2 r q
      | _ => exact (show False from pp).elim
end
section
variable {P : Program} {w : World} {K : PySem.W.Frag} {mg : Str → Option Value} {base : Heap} {j k n : Nat} {x : Str} {F : FF}
/-- as fn_ok, the code object known -/
theorem fn_okC {N ps : List Str} {n k : Nat} {b : FS} {params : Arguments} {body : List Stmt} {scope : Scope} {fd : FuncData} (F : FunD K x x params body scope [] [] (He.ga K x) fd) (S : FnScope N ps scope) (hn : ps.length = n)
    (hb : ∀ (cdv : Value) (A : Around) (outer : List PySem.Env) (s : Shared) (H : Hp) (E : XK), cdv = .ref (He.cT K (x, none)).1 → Room k (A.deeper (envOfC x scope s.heap.objs.size (He.ga K x) cdv)) →
      DSs (cxOf (L2N.CX P w) P w K mg base N x scope (He.ga K x) cdv A outer s H E) (fun c d _ H => E c d H) body b) :
    FnOk P w K mg base (L2N.CX P w) (k + 1) (He.ga K x) fd ps (spD K n (runF N.length b)) := by
  have len := @spD.len K n (runF N.length b) ps hn
  obtain ⟨oc, od, dV, kV, doc, pm, an, cdv, ct, osl, rfl, lk, hcd, _, _⟩ := F.ex
  obtain ⟨c, rfl⟩ := He.codeIn_ref hcd
  have ec : (He.cT K (x, none)).1 = c := He.codeOf_eq lk rfl
  refine fn_of lk hcd S len fun A outer s H vs Q E hr ⟨wd, η, ds, hh, rv, hl, p⟩ => ⟨_, hb (.ref c) A outer s H E (by rw [ec]) hr, ?_⟩
  refine ⟨wd, _, η, ⟨envRel_start rv, hh⟩, ?_⟩
  unfold runF at p
  cases e : b (ds.map some ++ List.replicate (N.length - ds.length) none) η with
  | nx ρ η' => rw [e] at p; exact fun σ' w' H' e' r => p .non w' H' e' r.heap .non
  | ret d η' => rw [e] at p; exact p
  | exc x ρ η' => rw [e] at p; exact fun c d σ' w' H' e' r rx => p c d w' H' e' r.heap rx
  | brk ρ η' => rw [e] at p; exact p.elim
  | cnt ρ η' => rw [e] at p; exact p.elim
  | no => rw [e] at p; exact p.elim
theorem Fn1.okC {N ps : List Str} {b : FS} {st : Stmt} (h : Fn1 K mg x st) (S : FnScope N ps (defScope st)) (hn : ps.length = n)
    (hb : ∀ (cdv : Value) (A : Around) (outer : List PySem.Env) (s : Shared) (H : Hp) (E : XK), cdv = .ref (He.cT K (x, none)).1 → Room k (A.deeper (envOfC x (defScope st) s.heap.objs.size (He.ga K x) cdv)) →
      L2N.Takes (cxOf (L2N.CX P w) P w K mg base N x (defScope st) (He.ga K x) cdv A outer s H E) (fun c d _ H => E c d H) →
      PassesOwn (model P w) (A.deeper (envOfC x (defScope st) s.heap.objs.size (He.ga K x) cdv)) (envOfC x (defScope st) s.heap.objs.size (He.ga K x) cdv) (cxOf (L2N.CX P w) P w K mg base N x (defScope st) (He.ga K x) cdv A outer s H E).xe →
      DSs (cxOf (L2N.CX P w) P w K mg base N x (defScope st) (He.ga K x) cdv A outer s H E) (fun c d _ H => E c d H) (defBody st) b)
    (bn : ∀ (kV doc pm : Value) (an : Option Addr) (cdv ct : Value) (us : List Value), us.length = ps.length → bindArgs (PySem.W.fnOf x x (defArgs st) (defBody st) (defScope st) .none kV doc pm an cdv ct) ⟨us, []⟩ = pure (ps.zip us)) :
    FOk P w K mg base (k + 1) x n (runF N.length b) := by
  obtain ⟨fd, F⟩ := h.f
  exact ⟨h.g, F.kp, fd, ps, fn_okC F S hn fun cdv A outer s H E hc hr => hb cdv A outer s H E hc hr (L2N.takes_of rfl rfl rfl rfl) (passes_of rfl), F.bindsN bn⟩
end
/-! ### a sum that is a thing -/
def addO : G2 := fun x y η => match lstOf x η, lstOf y η with
  | some a, some b => if a.length + b.length ≤ sizeLine then some (.obj η.length, η ++ [.lst (a ++ b)]) else none
  | _, _ => none
theorem opD_addO {X : Cx} : OpR X (binaryOp .Add) (rd2 X.K addO) := op_of op_cat fun hr r1 r2 h p => by
  unfold addO at h
  split at h
  · rename_i e1 e2
    split at h
    · rename_i hl
      cases h
      obtain ⟨a1, xs, rfl, h1, q1⟩ := lstOf_ok hr r1 e1
      obtain ⟨a2, ys, rfl, h2, q2⟩ := lstOf_ok hr r2 e2
      exact ⟨_, _, _, _, rfl, rfl, h1, h2, by rw [q1.length, q2.length]; exact hl, fun q hq => obj_of p hr (q1.append q2) hq⟩
    · cases h
  · cases h
/-! ### raise x(e) -/
section
variable {X : Cx} {W : WX} {e : Expr} {pos p p3 : Pos} {fe : FE}
theorem pmk_ownN {C : Addr} {bmB : List Value} {B newId initId : String} {x : Str} {es : List Expr} {t : TA} (F : ExcBaseFacts B newId initId bmB) (q : PySem.W.excIn X.K C bmB newId = true) (gC : X.mg x = some (.ref C))
    (kC : PySem.W.keepIn X.K (.ref C) = true) (r : Raises X (.ref C)) (hg : Gl X x) (ha : PA X (e :: es) t) (hdb : (x == ("__debug__" : Str)) = false := by decide)
    (he : starEach (e :: es) X.env = (false, eval e X.env) :: starEach es X.env := by rfl) (hpl : (backTo pos (starEach es X.env)).any (·.1) = false := by rfl) :
    L2N.PMk X (.Call (.Name x p) (e :: es) [] pos) (fun σ H Q => t σ H fun vs H1 => vs.length ≤ sizeLine ∧ Q (.ref C) none H1) := by
  intro pins s σ H Q I h
  refine wpAny_Call_Name_kw (ld_glob I hg gC ?_ hdb)
  refine PySem.W.callWith_K (h₀ := X.base) I.ok.mod.kin kC (thn (ha.run pos pins s σ H _ I h) fun us s1 ⟨vs, H1, I1, r1, hz, q1⟩ => ⟨I1.kIn, ?_⟩) he hpl
  show wpAny _ _ (call (.ref C) us) _ _ _
  obtain ⟨bm, N, nm, qn, bs, hdct, sn, sub, ab, col, dd, k0, k1, k2, k3, k5, mN, hC, hN, hni, T⟩ := exc_obj I1.kIn q
  refine wpAny_call_exc_subT F T hC hN hni (fun h' e hm => ?_) (by rw [← r1.length]; exact hz)
  exact L2N.mk_of I1 hm r q1 (I1.hok.gone hm.new)
def sRaiseE (x : Str) (fe : FE) : FS := fun ρ η => (fe ρ η).bindS ρ fun _ η => .exc ⟨x, none⟩ ρ η
theorem ds_raiseE {x : Str} (hc : X.calm = true) (tk : L2N.Takes X W) (k : ExcK X.K X.mg x) (he : DE X W e fe) (hg : Gl X x := by rfl) (hdb : (x == ("__debug__" : Str)) = false := by decide)
    (hs : starEach [e] X.env = (false, eval e X.env) :: starEach [] X.env := by rfl) :
    DS X W (.Raise (some (.Call (.Name x p) [e] [] p3)) none pos) (sRaiseE x fe) :=
  PS.imp (L2N.ps_raise hc tk (pmk_ownN F.excBase_ValueError k.ex k.g k.kp (raises_own k.sb k.ty) hg (pa_cons he pa_nil hs) hdb hs (by rfl))) fun E σ H ⟨w, ρ, η, rel, p⟩ => by
    exact (rdE_thenS rel p).imp fun v H1 ⟨w1, d, η1, ex, rel1, rv, p1⟩ => ⟨by show 1 ≤ sizeLine; rw [sizeLine_eq]; omega, p1 _ _ σ w1 H1 .refl rel1 ⟨rfl, rfl⟩⟩
variable {P : Po} {ρ : Env} {η : Store}
@[simp] theorem w_raiseE {x : Str} : wpS (sRaiseE x fe ρ η) P ↔ wpR (fe ρ η) (fun _ η' => P.ex ⟨x, none⟩ ρ η') (fun x η' => P.ex x ρ η') := by
  unfold sRaiseE
  cases fe ρ η <;> exact Iff.rfl
end
/-- defs by name -/
def tabF : List (Str × Nat × FF) → Str → Option (Nat × FF)
  | [], _ => none
  | (y, q) :: r, x => if x = y then some q else tabF r x
section
variable {P : Program} {w : World} {K : PySem.W.Frag} {mg : Str → Option Value} {base : Heap} {k : Nat}
def AF (P : Program) (w : World) (K : PySem.W.Frag) (mg : Str → Option Value) (base : Heap) (k : Nat) (T : Str → Option (Nat × FF)) : Prop := ∀ x n F, T x = some (n, F) → FOk P w K mg base k x n F
theorem af_nil : AF P w K mg base k (tabF []) := fun _ _ _ h => by cases h
theorem af_cons {j n : Nat} {y : Str} {F : FF} {r : List (Str × Nat × FF)} (h : FOk P w K mg base j y n F) (l : j ≤ k) (hr : AF P w K mg base k (tabF r)) : AF P w K mg base k (tabF ((y, n, F) :: r)) := fun x n' F' e => by
  unfold tabF at e
  split at e
  · rename_i ex
    cases e
    subst ex
    exact h.mono l
  · exact hr _ _ _ e
end
def allB : List Bool → Bool
  | [] => true
  | b :: r => b && allB r
theorem allB_at {l : List Bool} (h : allB l = true) (i : Nat) {b : Bool} (hi : l[i]? = some b) : b = true := by
  induction l generalizing i with
  | nil => simp at hi
  | cons x r ih =>
    have h' : (x && allB r) = true := h
    simp only [Bool.and_eq_true] at h'
    cases i with
    | zero => simp at hi; rw [← hi]; exact h'.1
    | succ i => exact ih h'.2 i (by simpa using hi)
/-! ### what the head tells of the makers of lambdas -/
/-- the tables of the defs in tf -/
def Tx (K : PySem.W.Frag) (mg : Str → Option Value) (base : Heap) (tf : List Str) : Prop := ∀ x ∈ tf, LamX.TabB base mg (He.cT K (x, none)).1 (He.cT K (x, none)).2
/-- only the defs in tf make lambdas, each has its own table -/
def tabX (K : PySem.W.Frag) (tf : List Str) : Bool := (lamNames.all fun x => decide (x ∈ tf) || !lamOn K x) && (tf.all fun x => lamOn K x && (tf.all fun y => !decide ((He.cT K (x, none)).2 = (He.cT K (y, none)).2) || decide (x = y)))
theorem tabX_on {K : PySem.W.Frag} {tf : List Str} (h : tabX K tf = true) : ∀ x ∈ tf, lamOn K x = true := fun x hx => by
  unfold tabX at h
  simp only [Bool.and_eq_true, List.all_eq_true] at h
  exact (h.2 x hx).1
theorem tabX_sub {K : PySem.W.Frag} {tf : List Str} (h : tabX K tf = true) {p : Addr × Str} (hp : p ∈ lamT K) : ∃ x ∈ tf, p = ((He.cT K (x, none)).2, x ++ ".<locals>." ++ "<lambda>") := by
  obtain ⟨x, hx, e⟩ := List.mem_map.mp hp
  obtain ⟨hx1, hx2⟩ := List.mem_filter.mp hx
  unfold tabX at h
  simp only [Bool.and_eq_true, List.all_eq_true, Bool.or_eq_true, decide_eq_true_eq, Bool.not_eq_true'] at h
  rcases h.1 x hx1 with z | z
  · exact ⟨x, z, e.symm⟩
  · rw [z] at hx2; cases hx2
theorem tabX_inj {K : PySem.W.Frag} {tf : List Str} (h : tabX K tf = true) : ∀ p ∈ lamT K, ∀ q ∈ lamT K, p.1 = q.1 → p.2 = q.2 := fun p hp q hq e => by
  obtain ⟨x, hx, rfl⟩ := tabX_sub h hp
  obtain ⟨y, hy, rfl⟩ := tabX_sub h hq
  unfold tabX at h
  simp only [Bool.and_eq_true, List.all_eq_true, Bool.or_eq_true, decide_eq_true_eq, Bool.not_eq_true', decide_eq_false_iff_not] at h
  rcases (h.2 x hx).2 y hy with z | z
  · exact absurd e z
  · rw [z]
/-- the law's promise with tables -/
theorem law_atS {l : PySem.W.OpenLaw} {w : World} {K : PySem.W.Frag} {mg : Str → Option Value} {h : Heap} {tf : List Str} {fa : Addr} {fd : FuncData} {F : FF} {k n : Nat} {x : Str} {fl : List He.Fa} {fn : List He.DefD} {ex : PySem.W.Frag → Bool}
    (KX : K.In h) {ts : List He.Tab} (c : He.SaysX fl fn ts (tf.map fun x => (x, none)) ex w h K) (ht : tabX K tf = true) (hb : ∀ (s : Shared) (u : Value), BindsTo s fd ⟨[u], []⟩ [(x, u)])
    (hl : ∀ ns : List Int, ns.length ≤ n → ∃ η', F [.scr (ns.map D.int)] [] = .ok (.bl true) η')
    (hF : ∀ base : Heap, K.In base → base.Ns mainGlobals mg → Tx K mg base tf → FnOk l.prog w K mg base (L2N.CX l.prog w) k fa fd [x] (spD K 1 F)) :
    LamX.LawAtS l w K C8.CX0 k n x mg fa h := by
  refine ⟨fd, tf.map fun x => He.cT K (x, none), fun vs H Q _ => spD K 1 F vs H Q L2.E0, fun p hp => ?_, fun p hp => ?_, fun p hp => ?_, hb, fun H a ns hn _ hH hS => ?_, fun base KB hmg hT => FnOk.no_exc (hF base KB hmg fun x hx => hT _ (List.mem_map.mpr ⟨x, hx, rfl⟩))⟩
  · obtain ⟨x, hx, rfl⟩ := List.mem_map.mp hp
    exact c.empty (x, none) (List.mem_map.mpr ⟨x, hx, rfl⟩)
  · obtain ⟨x, hx, rfl⟩ := List.mem_map.mp hp
    exact c.out (x, none) (List.mem_map.mpr ⟨x, hx, rfl⟩)
  · obtain ⟨x, hx, rfl⟩ := List.mem_map.mp hp
    have := c.hd (x, none) (List.mem_map.mpr ⟨x, hx, rfl⟩)
    exact PySem.W.codeHd_of_K KX this
  · refine law_spT hl H a ns hn (fun p hp => ?_) hS
    obtain ⟨x, hx, rfl⟩ := tabX_sub ht hp
    exact LamX.TabS.nil (hH _ (List.mem_map.mpr ⟨x, hx, rfl⟩))
end Dn
/-! Dn part 29: wishes of what is new. -/
namespace Dn
open PySem PySem.Spec PyProof.Rows L2
section
variable {fa fb f : FE} {fA : FA} {ρ : Env} {η : Store} {QD : D → Store → Prop} {E : Ex → Store → Prop} {P : Po}
theorem ret_of_wp {r : RS} {d : D} {η0 : Store} (h : wpS r ⟨fun _ _ => False, fun d' η' => d' = d ∧ ∃ l, η' = η0 ++ l, fun _ _ => False, fun _ _ => False, fun _ _ _ => False⟩) : ∃ l, r = .ret d (η0 ++ l) := by
  cases r with
  | ret d' η' =>
    obtain ⟨rfl, l, rfl⟩ := (show _ ∧ _ from h)
    exact ⟨l, rfl⟩
  | _ => exact (show False from h).elim
def hzO (ds : List D) (η : Store) : Option D := match ds with
  | [x, y] => (match lstOf x η, lstOf y η with
    | some xs, some ys => (match strsOf xs, boolsOf ys with
      | some ws, some bs => if ws.length ≤ 1000 then some (.lst ((pick ws bs).map .str)) else none
      | _, _ => none)
    | _, _ => none)
  | _ => none
@[simp] theorem w_hz : wpR (hz fA ρ η) QD E ↔ wpR (fA ρ η) (fun ds η => wpO (hzO ds η) fun d => QD d η) E := by
  unfold hz
  cases fA ρ η with
  | ok ds η =>
    show wpR (match ds with | [x, y] => _ | _ => _) QD E ↔ wpO (hzO ds η) fun d => QD d η
    unfold hzO
    match ds with
    | [x, y] =>
      dsimp only
      cases lstOf x η with
      | none => exact Iff.rfl
      | some xs =>
        cases lstOf y η with
        | none => exact Iff.rfl
        | some ys =>
          dsimp only
          cases strsOf xs with
          | none => exact Iff.rfl
          | some ws =>
            cases boolsOf ys with
            | none => exact Iff.rfl
            | some bs =>
              dsimp only
              split <;> exact Iff.rfl
    | [] => exact Iff.rfl
    | [_] => exact Iff.rfl
    | _ :: _ :: _ :: _ => exact Iff.rfl
  | exc x η => exact Iff.rfl
  | no => exact Iff.rfl
def toldE (m : Str → Option D) (Q : D → Store → Prop) : Ex → Store → Prop := fun x η => match x with
  | ⟨y, none⟩ => wpO (m y) fun d => Q d η
  | _ => False
@[simp] theorem toldE_at {m : Str → Option D} {Q : D → Store → Prop} {y : Str} : toldE m Q ⟨y, none⟩ η ↔ wpO (m y) fun d => Q d η := Iff.rfl
@[simp] theorem w_told {m : Str → Option D} {c : D} : wpR (eTold m c fb ρ η) QD E ↔ wpR (fb ρ η) (fun _ η => QD c η) (toldE m QD) := by
  unfold eTold told
  cases fb ρ η with
  | ok d η => exact Iff.rfl
  | no => exact Iff.rfl
  | exc x η =>
    obtain ⟨y, fs⟩ := x
    cases fs with
    | some fs => exact Iff.rfl
    | none =>
      show wpR (match m y with | some d => .ok d η | none => .no) QD E ↔ wpO (m y) fun d => QD d η
      cases m y <;> exact Iff.rfl
def fnAt (T : Str → Option (Nat × FF)) (i : Nat) (ρ : Env) : Option (Nat × FF) := match ρ[i]? with
  | some (some (.gl x)) => T x
  | _ => none
@[simp] theorem w_callV {T : Str → Option (Nat × FF)} {i : Nat} : wpR (eCallV T i fA ρ η) QD E ↔ wpO (fnAt T i ρ) fun p => wpR (eCall p.1 p.2 fA ρ η) QD E := by
  unfold eCallV fnAt
  cases ρ[i]? with
  | none => exact Iff.rfl
  | some o =>
    cases o with
    | none => exact Iff.rfl
    | some d =>
      cases d with
      | gl x =>
        dsimp only
        cases T x with
        | none => exact Iff.rfl
        | some p => exact Iff.rfl
      | _ => exact Iff.rfl
theorem w_cmp0 {b : TGt} {s : FT} {te : FE} {QL : List D → Store → Prop} : wpR (cmp b s te ρ [] η) QL E ↔ QL [] η := Iff.rfl
theorem w_cmp1 {b : TGt} {s : FT} {te : FE} {x : D} {xs : List D} {QL : List D → Store → Prop} : wpR (cmp b s te ρ (x :: xs) η) QL E ↔ wpO (b x ρ) fun ρ1 => wpR (s ρ1 η) (fun k η => if k = true then wpR (te ρ1 η) (fun y η => wpR (cmp b s te ρ xs η) (fun ys η => QL (y :: ys) η) E) E else wpR (cmp b s te ρ xs η) QL E) E := by
  show wpR (match b x ρ with | none => .no | some ρ1 => _) QL E ↔ _
  cases b x ρ with
  | none => exact Iff.rfl
  | some ρ1 =>
    dsimp only [wpO]
    rw [wpR_bind]
    refine wpR_congr fun k η => ?_
    cases k with
    | false => exact Iff.rfl
    | true =>
      show wpR (R.bind _ _) _ _ ↔ wpR _ _ _
      rw [wpR_bind]
      refine wpR_congr fun y η => ?_
      rw [wpR_bind]
      exact wpR_congr fun ys η => Iff.rfl
/-! ### comprehensions over few known things, as equations -/
theorem callV_eq {T : Str → Option (Nat × FF)} {i n : Nat} {x : Str} {F : FF} (h : ρ[i]? = some (some (.gl x))) (hT : T x = some (n, F)) : eCallV T i fA ρ η = eCall n F fA ρ η := by
  unfold eCallV
  rw [h]
  dsimp only
  rw [hT]
theorem cmp_one {b : TGt} {te : FE} {x u : D} {xs us : List D} {ρ1 : Env} (hb : b x ρ = some ρ1) (h : te ρ1 η = .ok u η) (hr : cmp b yes te ρ xs η = .ok us η) : cmp b yes te ρ (x :: xs) η = .ok (u :: us) η := by
  unfold cmp
  rw [hb]
  show R.bind (te ρ1 η) _ = _
  rw [h]
  show R.bind (cmp b yes te ρ xs η) _ = _
  rw [hr]
  rfl
theorem lc_val {N : Nat} {vs : List Nat} {ft te : FE} {b : TGt} {xs us : List D} (hf : iVal ft ρ η = .ok (.val xs) η) (h : cmp b yes te (wipeD ρ vs) xs η = .ok us η) (hl : us.length ≤ sizeLine) : lc N vs (iVal ft) b yes te ρ η = .ok (.lst us) η := by
  unfold lc
  rw [hf]
  show R.bind (nx (cmp b yes te (wipeD ρ vs) xs η)) _ = _
  rw [h]
  show (if us.length ≤ sizeLine then _ else _) = _
  rw [if_pos hl]
end
end Dn
/-! Dn part 30: the hot comprehension stored to a name. -/
namespace Dn
open PySem PySem.Spec PyProof.Rows L2
section
variable {X : Cx} {a : Addr} {oe : Obj} {pn : List (Addr × Obj)} {e1 e2 : Expr} {t : TA} {wn gn : Str} {pe pa pb pt zp zpos pos gp : Pos} {kk : Nat} {scope : Scope}
set_option maxHeartbeats 4000000 in
theorem ps_hotzip {i : Nat} {y : Str} {py spos : Pos} (hN : X.N.Nodup) (hy : X.N[i]? = some y) (hyl : X.env.scope.names.lookup y = some .local) (hsw : swapsWith (.ListComp (.Name wn pe) [⟨.Tuple [.Name wn pa, .Name gn pb] kk pt, .Call (.Name "zip" zp) [e1, e2] [] zpos, [.Name gn gp], 0⟩] scope pos) (some (.Name y py)) spos.line X.env = pure true) (hctx : ∃ vs : Array Value, oe.data = .fields vs ∧ vs[2]? = some .none) (hm : X.mg "zip" = none) (hg : Gl X "zip") (ha : PA (X.suite a ((a, oe) :: pn)) [e1, e2] t)
    (hfree : ∀ y ∈ scope.names, y.2 ≠ .free) (hcell : ∀ y ∈ scope.names, y.2 ≠ .cell) (hkind : scope.kind = .function) (hnames : ∀ y ∈ scope.names, y.2 = .local → scope.names.lookup y.1 = some .local)
    (hw : scope.names.lookup wn = some .local) (hgn : scope.names.lookup gn = some .local) (hne : wn ≠ gn) (hdw : (wn == ("__debug__" : Str)) = false) (hdg : (gn == ("__debug__" : Str)) = false)
    (hs2 : starEach [e1, e2] X.env = (false, eval e1 X.env) :: starEach [e2] X.env) (hpl : (backTo zpos (starEach [e2] X.env)).any (·.1) = false) :
    PS (X.suite a ((a, oe) :: pn)) (.Assign [.Name y py] (.ListComp (.Name wn pe) [⟨.Tuple [.Name wn pa, .Name gn pb] kk pt, .Call (.Name "zip" zp) [e1, e2] [] zpos, [.Name gn gp], 0⟩] scope pos) spos) (tAsg (tHZ t) (gName i)) := by
  refine ⟨fun pins s σ H D I h => ?_⟩
  have h : tHZ t σ H (fun x H1 => gName i x σ H1 D.nx) := h
  have hclos := closure_ok (scope := scope) (env := X.env) fun y hy e => absurd e (hfree y hy)
  generalize hcl : cloFrom X.env.cells scope.names [] = cl at hclos
  refine Assign_ListComp_goes hsw hclos hcell hkind hnames ?_ (fun _ => rfl)
  refine Call_ (ld_blt I hg hm PyProof.Rows.boot_zip (PyProof.Rows.callWith_type1 (thn (ha.run zpos pins s σ H _ I h) fun us s1 hh => ?_) hs2 hpl))
  obtain ⟨vs, H1, I1, r1, a1, a2, ws, bs, ev, q1, q2, hz, q⟩ := hh
  subst ev
  cases r1 with | cons ra rr => ?_
  cases rr with | cons rb rr => ?_
  cases rr; cases ra; cases rb
  obtain ⟨its, v1, p1, _⟩ := I1.list (SqL.of q1)
  obtain ⟨its2, v2, p2, _⟩ := I1.list (SqL.of q2)
  have hl1 := p1.isList
  have hl2 := p2.isList
  have lt1 : a1 < s1.heap.objs.size := by obtain ⟨o, e, _⟩ := hl1; exact Heap.lt_size e
  have lt2 : a2 < s1.heap.objs.size := by obtain ⟨o, e, _⟩ := hl2; exact Heap.lt_size e
  obtain ⟨hget, hna, _⟩ := I1.pin (a, oe) (List.mem_append.mpr (.inl List.mem_cons_self))
  have lt3 : a < s1.heap.objs.size := Heap.lt_size hget
  have hot : HotO a s1.heap := let ⟨vs, d, c⟩ := hctx; ⟨oe, vs, hget, d, c⟩
  have hh : (X.suite a ((a, oe) :: pn)).A.handled = some (.ref a) := rfl
  refine zip_begins2 (begins_list a1 its.toArray) (begins_list a2 its2.toArray) hl1 hl2 fun h₁ hZ hTI hTO hi1 hi2 hz5 hk₁ => wpAny_pyIter_zip hZ ?_
  have e1l : its.length = ws.length := by rw [← v1.length, List.length_map]
  have e2l : its2.length = bs.length := by rw [← v2.length, List.length_map]
  refine ⟨_, _, _, _, _, _, rfl, Goes.zip2 (zip_sep2 (N := s1.heap.objs.size) (fp1 := [a1, a]) (fp2 := [a2, a]) (fun b hb => ?_) (fun b hb => ?_))
      (draws_hot (A := (X.suite a ((a, oe) :: pn)).A.in1) hh _ a1 (Nat.ne_of_lt lt1) (Nat.ne_of_lt lt3) its.toArray) (draws_hot (A := (X.suite a ((a, oe) :: pn)).A.in1) hh _ a2 (Nat.ne_of_lt (Nat.lt_succ_of_lt lt2)) (Nat.ne_of_lt (Nat.lt_succ_of_lt lt3)) its2.toArray),
    ?_, ⟨hZ, hTI, ⟨_, _, hTO⟩, ⟨⟨_, hi1, rfl, rfl⟩, hl1.at fun o e => hk₁ _ o e, hot.keep fun o e => hk₁ _ o e⟩, ⟨⟨_, hi2, rfl, rfl⟩, hl2.at fun o e => hk₁ _ o e, hot.keep fun o e => hk₁ _ o e⟩⟩, ?_, fun Dd C s₃ hB => ?_⟩
  · rcases List.mem_cons.mp hb with e | hb
    · rw [e]; exact lt1
    · rw [List.mem_singleton.mp hb]; exact lt3
  · rcases List.mem_cons.mp hb with e | hb
    · rw [e]; exact lt2
    · rw [List.mem_singleton.mp hb]; exact lt3
  · refine Nat.le_trans (Nat.min_le_left ..) ?_
    have : its.toArray.size = ws.length := by simpa using e1l
    rw [this]
    exact Nat.le_trans hz (by decide)
  · intro b hb
    show b < h₁.objs.size
    rw [hz5]
    exact hot_lt lt1 lt2 lt3 (by simpa using hb)
  · obtain ⟨⟨h₃, tk₃, rfl⟩, old, nD, nC, hDC, hnm⟩ := hB
    have nC' : (s1.heap.objs.size + 5 : Nat) ≤ C := by rw [← hz5]; exact nC
    have nD' : (s1.heap.objs.size + 5 : Nat) ≤ Dd := by rw [← hz5]; exact nD
    have hDC' : (Dd : Nat) ≠ C := hDC
    have kinds : ∀ y, scope.names.lookup y = some .local → (compEnvC scope cl C X.env).kindOf y = some .local := fun y hy => lookup_relabel_local hy
    have hp : ((compEnvC scope cl C X.env).scope.kind == .class || ((compEnvC scope cl C X.env).scope.kind == .module && (compEnvC scope cl C X.env).locals != (compEnvC scope cl C X.env).globals)) = false := by
      show (scope.kind == .class || (scope.kind == .module && _)) = false
      rw [hkind]; rfl
    refine ⟨fun i ys s₁ => ∃ h' tk m, s₁ = { s1 with heap := h', toks := tk } ∧ h'.Ns C m ∧ Vals ((pick (ws.take i) (bs.take i)).map V.str) ys ∧ ∀ b o, s1.heap.get? b = some o → h'.get? b = some o, ⟨h₃, tk₃, _, rfl, hnm, .nil, fun b o e => old b o (hk₁ b o e)⟩, ?_, ?_, ?_⟩
    · rintro i ys s₁ h' tk ⟨h₄, tk₄, m, rfl, n₄, e₄, k₄⟩ hk' _
      have off : ∀ b : Addr, (b < s1.heap.objs.size ∨ b = C) → b ∉ Dd :: [s1.heap.objs.size + 4, s1.heap.objs.size + 3, s1.heap.objs.size, s1.heap.objs.size + 1] := fun b hb hm => hot_off (x1 := 0) (l1 := 0) (l2 := 0) hb nC' nD' hDC' (by simpa using hm)
      exact ⟨h', tk, m, rfl, n₄.at' fun o e => hk' _ o (off _ (.inr rfl)) e, e₄, fun b o e => hk' b o (off _ (.inl (Heap.lt_size e))) (k₄ b o e)⟩
    · rintro i v ys s₁ hi ⟨T, x, y, rfl, hx, hy, hT⟩ st ⟨h₄, tk₄, m, rfl, n₄, e₄, k₄⟩ hpl
      have hi1' : i < ws.length := by rw [← e1l]; have := Nat.lt_of_lt_of_le hi (Nat.min_le_left ..); simpa using this
      have hi2' : i < bs.length := by rw [← e2l]; have := Nat.lt_of_lt_of_le hi (Nat.min_le_right ..); simpa using this
      obtain ⟨x', ex, rx⟩ := vals_get v1 (i := i) (v := .str ws[i]) (by simp [hi1'])
      obtain ⟨y', ey, ry⟩ := vals_get v2 (i := i) (v := .bl bs[i]) (by simp [hi2'])
      have ex' : x = x' := by
        have z : its[i]? = some x := by simpa using hx
        rw [ex] at z; exact (Option.some.inj z).symm
      have ey' : y = y' := by
        have z : its2[i]? = some y := by simpa using hy
        rw [ey] at z; exact (Option.some.inj z).symm
      subst ex' ey'
      have ry' : y = .bool bs[i] := ry
      have hCs : C < h₄.objs.size := by obtain ⟨o, _, _, ho, _⟩ := n₄; exact Heap.lt_size ho
      have hotn : HotO a h₄ := hot.keep fun o e => k₄ _ o e
      refine hot_assign hh hotn hT rfl rfl fun h₅ hs₅ => ?_
      have up₅ : ∀ b o, h₄.get? b = some o → h₅.get? b = some o := fun b o e => hs₅ b o (Nat.ne_of_lt (Heap.lt_size e)) e
      show wpAny _ _ (assignInOrder [assign (.Name wn pa) _, assign (.Name gn pb) _] [x, y]) _ _ _
      refine wpAny_assignInOrder_more (wpAny_assign_Name (wpAny_storeName_local (kinds _ hw) (n₄.at' fun o e => up₅ _ o e) (fun h₆ n₆ s₆ => ?_) hp))
      refine wpAny_assignInOrder_more (wpAny_assign_Name (wpAny_storeName_local (kinds _ hgn) n₆ (fun h₇ n₇ s₇ => wpAny_assignInOrder_none ?_) hp))
      have up₇ : ∀ b o, b ≠ C → h₄.get? b = some o → h₇.get? b = some o := fun b o hb e => s₇.extBut _ _ hb (s₆.extBut _ _ hb (up₅ b o e))
      have offC : ∀ b : Addr, b < s1.heap.objs.size + 5 → b ≠ C := fun b hb => hot_ne hb nC'
      have k₇ : ∀ b o, s1.heap.get? b = some o → h₇.get? b = some o := fun b o e => up₇ b o (offC b (Nat.lt_add_right 5 (Heap.lt_size e))) (k₄ b o e)
      have st₇ : ∀ {i : Nat}, (IsZip h₄ (s1.heap.objs.size + 4) (s1.heap.objs.size + 2) (s1.heap.objs.size + 3) .none ∧ IsTupOf2 h₄ (s1.heap.objs.size + 2) (.ref s1.heap.objs.size) (.ref (s1.heap.objs.size + 1)) ∧ (∃ b1 b2, IsTupOf2 h₄ (s1.heap.objs.size + 3) b1 b2) ∧
          (h₄.IsListIter s1.heap.objs.size a1 i ∧ h₄.IsList a1 its.toArray ∧ HotO a h₄) ∧ (h₄.IsListIter (s1.heap.objs.size + 1) a2 i ∧ h₄.IsList a2 its2.toArray ∧ HotO a h₄)) →
          (IsZip h₇ (s1.heap.objs.size + 4) (s1.heap.objs.size + 2) (s1.heap.objs.size + 3) .none ∧ IsTupOf2 h₇ (s1.heap.objs.size + 2) (.ref s1.heap.objs.size) (.ref (s1.heap.objs.size + 1)) ∧ (∃ b1 b2, IsTupOf2 h₇ (s1.heap.objs.size + 3) b1 b2) ∧
          (h₇.IsListIter s1.heap.objs.size a1 i ∧ h₇.IsList a1 its.toArray ∧ HotO a h₇) ∧ (h₇.IsListIter (s1.heap.objs.size + 1) a2 i ∧ h₇.IsList a2 its2.toArray ∧ HotO a h₇)) := by
        rintro i ⟨z1, z2, ⟨b1, b2, z3⟩, ⟨z4, z5, z8⟩, ⟨z6, z7, _⟩⟩
        have lC : ∀ {k : Nat}, k < 5 → s1.heap.objs.size + k ≠ C := fun {k} hk => offC _ (Nat.add_lt_add_left hk _)
        exact ⟨up₇ _ _ (lC (by decide)) z1, up₇ _ _ (lC (by decide)) z2, ⟨b1, b2, up₇ _ _ (lC (by decide)) z3⟩, ⟨z4.at fun o e => up₇ _ o (lC (k := 0) (by decide)) e, z5.at fun o e => up₇ _ o (offC _ (Nat.lt_add_right 5 lt1)) e, z8.keep fun o e => up₇ _ o (offC _ (Nat.lt_add_right 5 lt3)) e⟩,
          ⟨z6.at fun o e => up₇ _ o (lC (by decide)) e, z7.at fun o e => up₇ _ o (offC _ (Nat.lt_add_right 5 lt2)) e, z8.keep fun o e => up₇ _ o (offC _ (Nat.lt_add_right 5 lt3)) e⟩⟩
      have hpk := pick_take ws bs i hi1' hi2'
      refine wpAny_tests_one (isTrue_plain (wpAny_Name (wpAny_loadName_local hkind (kinds _ hgn) n₇ (v := y) (by simp) ?_) hdg))
      rw [ry']
      refine wpAny_pure ?_
      cases hb : bs[i] with
      | false =>
        rw [if_neg (by simp)]
        rw [hb] at hpk
        refine ⟨⟨h₇, _, _, rfl, n₇, ?_, k₇⟩, st₇ st, hpl.at fun o e => up₇ _ o hDC e⟩
        rw [hpk]; simpa using e₄
      | true =>
        rw [if_pos rfl]
        rw [hb] at hpk
        refine wpAny_Name (wpAny_loadName_local hkind (kinds _ hw) n₇ (v := x) (by simp [hne]) ?_) hdw
        refine ⟨⟨h₇, _, _, rfl, n₇, ?_, k₇⟩, st₇ st, hpl.at fun o e => up₇ _ o hDC e⟩
        rw [hpk, if_pos rfl, List.map_append]
        exact vals_snoc e₄ rx
    · rintro ys s₁ ⟨h₄, tk₄, m, rfl, n₄, e₄, k₄⟩ hpl
      have nD'' : s1.heap.objs.size ≤ Dd := Nat.le_trans (Nat.le_add_right _ 5) nD'
      have hfr : H1 Dd = none := I1.hok.fresh nD''
      have nC'' : s1.heap.objs.size ≤ C := Nat.le_trans (Nat.le_add_right _ 5) nC'
      have hall : pick (ws.take (min its.toArray.size its2.toArray.size)) (bs.take (min its.toArray.size its2.toArray.size)) = pick ws bs := by
        refine pick_min ws bs _ ?_
        rw [List.size_toArray, List.size_toArray, e1l, e2l]
        exact Nat.le_refl _
      rw [hall] at e₄
      have J := I1.laid (o := .lst ((pick ws bs).map V.str)) (t' := tk₄) k₄ nD'' ⟨(by
        rw [List.length_map]
        exact Nat.le_trans (pick_len ws bs) (Nat.le_trans hz (by decide))), ys, let ⟨n, e⟩ := hpl; ⟨n, e₄, e⟩⟩
      show wpAny _ _ (assign (.Name y py) X.env (.ref Dd)) _ _ _
      refine wpAny_assign_Name (store_ok2 (X := X.suite a ((a, oe) :: pn)) (v := V.ref Dd) J hN hy (.inl hyl) rfl (fun s2 I2 ⟨a', sb, ha'⟩ => ?_) (.inr hyl))
      obtain ⟨f0, f1, f2, f3, f4, f5⟩ := I1.fpOk (H' := upd H1 Dd (.lst ((pick ws bs).map V.str))) nC'' (by rw [upd_ne (fun e => hDC' e.symm)]; exact I1.hok.fresh nC'')
      have haC : C ≠ a' := by
        rcases ha' with z | z
        · rw [z]; exact f1
        · exact fun e => f4 y a' z e.symm
      refine ⟨m, n₄.sameBut sb haC, fun h3 sb3 => ?_⟩
      exact ⟨_, _, I2.turned (t' := s2.toks) (fun b o hb e => (sb3.2 b hb).trans e) f0 f1 f3 f4 f5, q Dd hfr⟩
end
section
variable {X : Cx} {W : WX} {a : Addr} {oe : Obj} {pn : List (Addr × Obj)} {pos p : Pos} {fA : FA} {e1' e2' : Expr} {wn gn : Str} {p1 p2 p3 p4 p5 p6 p7 : Pos} {kk : Nat} {scope : Scope}
theorem ds_hz (i : Nat) {y : Str} {py spos : Pos} (hctx : ∃ vs : Array Value, oe.data = .fields vs ∧ vs[2]? = some .none) (hm : X.mg "zip" = none) (hN : X.N.Nodup) (hsw : swapsWith (.ListComp (.Name wn p1) [⟨.Tuple [.Name wn p2, .Name gn p3] kk p4, .Call (.Name "zip" p6) [e1', e2'] [] p5, [.Name gn p7], 0⟩] scope pos) (some (.Name y py)) spos.line X.env = pure true)
    (ha : DA (X.suite a ((a, oe) :: pn)) W [e1', e2'] fA) (hy : X.N[i]? = some y := by rfl) (hyl : X.env.scope.names.lookup y = some .local := by rfl)
    (hsc : (scope.names.all fun y => !decide (y.2 = .free) && !decide (y.2 = .cell) && (!decide (y.2 = .local) || decide (scope.names.lookup y.1 = some .local))) = true := by decide) (hkind : scope.kind = .function := by rfl)
    (hw : scope.names.lookup wn = some .local := by rfl) (hgn : scope.names.lookup gn = some .local := by rfl) (hne : wn ≠ gn := by decide) (hdw : (wn == ("__debug__" : Str)) = false := by decide) (hdg : (gn == ("__debug__" : Str)) = false := by decide)
    (hg : Gl X "zip" := by rfl) (hs2 : starEach [e1', e2'] X.env = (false, eval e1' X.env) :: starEach [e2'] X.env := by rfl) (hpl : (backTo p5 (starEach [e2'] X.env)).any (·.1) = false := by rfl) :
    DS (X.suite a ((a, oe) :: pn)) W (.Assign [.Name y py] (.ListComp (.Name wn p1) [⟨.Tuple [.Name wn p2, .Name gn p3] kk p4, .Call (.Name "zip" p6) [e1', e2'] [] p5, [.Name gn p7], 0⟩] scope pos) spos) (sAsg (hz fA) (bN i)) := by
  have hsc' : ∀ y ∈ scope.names, y.2 ≠ .free ∧ y.2 ≠ .cell ∧ (y.2 = .local → scope.names.lookup y.1 = some .local) := fun y hy => by
    have h := List.all_eq_true.mp hsc y hy
    simp only [Bool.and_eq_true, Bool.or_eq_true, Bool.not_eq_true', decide_eq_true_eq, decide_eq_false_iff_not] at h
    exact ⟨h.1.1, h.1.2, fun e => h.2.elim (fun z => absurd e z) id⟩
  refine PS.imp (ps_hotzip hN hy hyl hsw hctx hm hg ha (fun y hy => (hsc' y hy).1) (fun y hy => (hsc' y hy).2.1) hkind (fun y hy => (hsc' y hy).2.2) hw hgn hne hdw hdg hs2 hpl) fun E σ H ⟨w, ρ, η, rel, p⟩ => ?_
  have p' := rdE_thenS rel p
  refine hz_reads (p'.imp fun v H1 ⟨w1, d, η1, e, rel1, rv, p1⟩ => p1 _ w1 H1 .refl ⟨rel1.env.set rv, rel1.heap⟩)
end
end Dn
/-! Dn part 31: dicts with keys that are ints, texts, or tuples of these. -/
namespace Dn
open PySem PySem.Spec PyProof.Rows L2
def keysL : List D → Option (List Key)
  | [] => some []
  | d :: r => match keyD d, keysL r with
    | some k, some ks => some (k :: ks)
    | _, _ => none
def keysD : D → Option (List Key)
  | .tup xs => keysL xs
  | _ => none
section
variable {X : Cx} {W : WX} {K : PySem.W.Frag} {w w1 w' : Wd} {σ : L2.St} {H H1 H' : Hp} {ρ : Env} {η η1 η' : Store}
theorem keysL_ok : ∀ {vs : List V} {ds : List D} {ks : List Key}, RepVs K w H vs ds → keysL ds = some ks → vs = ks.map kV ∧ ds = ks.map dK
  | _, _, _, .nil, h => by cases h; exact ⟨rfl, rfl⟩
  | _, _, _, .cons (d := d) (ds := ds) r rs, h => by
    unfold keysL at h
    cases e1 : keyD d with
    | none => rw [e1] at h; cases h
    | some k =>
      cases e2 : keysL ds with
      | none => rw [e1, e2] at h; cases h
      | some ks =>
        rw [e1, e2] at h; cases h
        obtain ⟨a, b⟩ := keysL_ok rs e2
        obtain ⟨c, d⟩ := keyD_ok r e1
        rw [a, b, c, d]; exact ⟨rfl, rfl⟩
theorem keysL_map : ∀ ks : List Key, keysL (ks.map dK) = some ks
  | [] => rfl
  | k :: ks => by
    rw [List.map_cons]
    unfold keysL
    rw [keysL_map ks]
    cases k <;> rfl
theorem keysD_ok {v : V} {d : D} {ks : List Key} (r : RepV K w H v d) (h : keysD d = some ks) : ∃ b, v = .ref b ∧ H b = some (.tup (ks.map kV)) ∧ d = .tup (ks.map dK) := by
  cases d with
  | tup xs =>
    cases r with | tup hs q => ?_
    obtain ⟨a, b⟩ := keysL_ok q h
    rw [← a, ← b]
    exact ⟨_, rfl, hs.1, rfl⟩
  | _ => cases h
/-- what a dict holds at a key; none: no dict, or no fit key -/
def dget (x i : D) (η : Store) : Option (Option D) := match x with
  | .obj k => (match η[k]? with
    | some (.dK kvs) => (match keyD i with
      | some q => some (getD kvs q)
      | none => none)
    | some (.dT kvs) => (match keysD i with
      | some q => some (getD kvs q)
      | none => none)
    | some (.lkK kvs) => (match keyD i with
      | some q => some (getD kvs q)
      | none => none)
    | some (.lkT kvs) => (match keysD i with
      | some q => some (getD kvs q)
      | none => none)
    | _ => none)
  | _ => none
theorem dget_ok {v u : V} {x i : D} {o : Option D} (hr : HeapRel K w H η) (r1 : RepV K w H v x) (r2 : RepV K w H u i) (h : dget x i η = some o) :
    ∃ a ov, v = .ref a ∧ DGet H a u ov ∧ (o = none → ov = none) ∧ ∀ d, o = some d → ∃ z, ov = some z ∧ RepV K w H z d := by
  cases x with
  | obj k =>
    cases r1 with | obj ha => ?_
    unfold dget at h
    dsimp only at h
    cases eo : η[k]? with
    | none => rw [eo] at h; cases h
    | some ob =>
      rw [eo] at h
      cases ob with
      | dK kvs =>
        obtain ⟨xs, e, f⟩ := hr.at_ _ _ _ ha eo
        dsimp only at h
        cases ek : keyD i with
        | none => rw [ek] at h; cases h
        | some q =>
          rw [ek] at h; cases h
          obtain ⟨e1, _⟩ := keyD_ok r2 ek
          subst e1
          obtain ⟨g1, g2⟩ := repF_get (k := q) f
          exact ⟨_, _, rfl, DGet.k e, g2, fun d hd => g1 d hd⟩
      | dT kvs =>
        obtain ⟨xs, e, f⟩ := hr.at_ _ _ _ ha eo
        dsimp only at h
        cases ek : keysD i with
        | none => rw [ek] at h; cases h
        | some q =>
          rw [ek] at h; cases h
          obtain ⟨b, e1, eb, _⟩ := keysD_ok r2 ek
          subst e1
          obtain ⟨g1, g2⟩ := repF_get (k := q) f
          exact ⟨_, _, rfl, DGet.t e eb, g2, fun d hd => g1 d hd⟩
      | lkK kvs =>
        obtain ⟨od, xs, e, f⟩ := hr.at_ _ _ _ ha eo
        dsimp only at h
        cases ek : keyD i with
        | none => rw [ek] at h; cases h
        | some q =>
          rw [ek] at h; cases h
          obtain ⟨e1, _⟩ := keyD_ok r2 ek
          subst e1
          obtain ⟨g1, g2⟩ := repF_get (k := q) f
          exact ⟨_, _, rfl, .inl ⟨_, _, .inr ⟨od, e⟩, rfl, rfl⟩, g2, fun d hd => g1 d hd⟩
      | lkT kvs =>
        obtain ⟨od, xs, e, f⟩ := hr.at_ _ _ _ ha eo
        dsimp only at h
        cases ek : keysD i with
        | none => rw [ek] at h; cases h
        | some q =>
          rw [ek] at h; cases h
          obtain ⟨b, e1, eb, _⟩ := keysD_ok r2 ek
          subst e1
          obtain ⟨g1, g2⟩ := repF_get (k := q) f
          exact ⟨_, _, rfl, .inr ⟨_, _, b, .inr ⟨od, e⟩, rfl, eb, rfl⟩, g2, fun d hd => g1 d hd⟩
      | _ => cases h
  | _ => cases h
theorem ix_dct (hu : X.A.units + 1 < cLine) : IxR X (fun x y H Q => ∃ a v, x = .ref a ∧ DGet H a y (some v) ∧ Q v H) := by
  intro value slice pins s σ H x y o i Q I rx ry ⟨a, v, ex, g, q⟩ hs
  subst ex
  obtain rfl : o = Value.ref a := rx
  have hT := dict_typeIs I g
  unfold subscriptTail
  refine wpAny_bind ?_
  rw [getitemInPython_of_ne hT.not_modules]
  refine wpAny_bind (wpAny_specialOf hT PySem.F.slot_dict_getitem.lookup ?_)
  have fin : wpAny (model X.prog X.w) X.A (subscripted slice false (.ref a) i) (fun r s₃ => wpAny (model X.prog X.w) X.A (letTemporaryGo value (.ref a) r >>= fun _ => pure r) (EP X pins σ Q) X.xe s₃) X.xe s := by
    rw [hs]
    exact wpAny_operating (wpAny_mono (d_getItem hu I g ry fun w' s3 I3 rw' => (⟨v, H, I3, rw', q⟩ : EP X pins σ Q w' s3)) (fun r s₃ h₃ => wpAny_bind (wpAny_letTemporaryGo (wpAny_pure h₃))) fun _ _ x => x)
  first
    | exact wpAny_pure (wpAny_bind fin)
    | exact wpAny_bind (wpAny_pure (wpAny_bind fin))
    | exact wpAny_bind fin
/-- x[i] of a list, a tuple, a text, a dict -/
def ixX : G2 := fun x y η => match dget x y η with
  | some (some d) => some (d, η)
  | some none => none
  | none => ixD x y η
theorem ixX_ok (hu : X.A.units + 1 < cLine) : IxR X (rd2 X.K ixX) := by
  intro value slice pins s σ H x y v u Q I rx ry ⟨w, η, d1, d2, hr, r1, r2, p⟩ hs
  unfold ixX at p
  cases e : dget d1 d2 η with
  | none => rw [e] at p; exact ixD_seq value slice pins s σ H x y v u Q I rx ry ⟨w, η, d1, d2, hr, r1, r2, p⟩ hs
  | some o =>
    rw [e] at p
    cases o with
    | none => exact p.elim
    | some d =>
      obtain ⟨a, ov, ex, g, _, g2⟩ := dget_ok hr r1 r2 e
      obtain ⟨z, e1, rz⟩ := g2 d rfl
      subst e1
      exact ix_dct hu value slice pins s σ H x y v u Q I rx ry ⟨a, z, ex, g, p z w H .refl hr rz⟩ hs
/-- y in x -/
def inX : G2 := fun y x η => match dget x y η with
  | some o => some (.bl o.isSome, η)
  | none => inD y x η
def notInX : G2 := fun y x η => match dget x y η with
  | some o => some (.bl (!o.isSome), η)
  | none => notInD y x η
theorem inX_ok (hu : X.A.units + 65 < cLine) : OpR X (compareOp .In) (rd2 X.K inX) := by
  intro pins s σ H y x u v Q I ry rx ⟨w, η, d1, d2, hr, r1, r2, p⟩
  unfold inX at p
  cases e : dget d2 d1 η with
  | none => rw [e] at p; exact opD_in hu pins s σ H y x u v Q I ry rx ⟨w, η, d1, d2, hr, r1, r2, p⟩
  | some o =>
    rw [e] at p
    obtain ⟨a, ov, ex, g, g1, g2⟩ := dget_ok hr r2 r1 e
    subst ex
    obtain rfl : v = Value.ref a := rx
    have hb : o.isSome = ov.isSome := by
      cases o with
      | none => rw [g1 rfl]; rfl
      | some d => obtain ⟨z, e1, _⟩ := g2 d rfl; rw [e1]; rfl
    refine d_in (by omega) I g ry fun s3 I3 => ⟨.bl ov.isSome, H, I3, rfl, ?_⟩
    rw [← hb]
    exact p _ w H .refl hr (.bl _)
theorem notInX_ok (hu : X.A.units + 65 < cLine) : OpR X (compareOp .NotIn) (rd2 X.K notInX) := by
  intro pins s σ H y x u v Q I ry rx ⟨w, η, d1, d2, hr, r1, r2, p⟩
  unfold notInX at p
  cases e : dget d2 d1 η with
  | none => rw [e] at p; exact opD_notIn hu pins s σ H y x u v Q I ry rx ⟨w, η, d1, d2, hr, r1, r2, p⟩
  | some o =>
    rw [e] at p
    obtain ⟨a, ov, ex, g, g1, g2⟩ := dget_ok hr r2 r1 e
    subst ex
    obtain rfl : v = Value.ref a := rx
    have hb : o.isSome = ov.isSome := by
      cases o with
      | none => rw [g1 rfl]; rfl
      | some d => obtain ⟨z, e1, _⟩ := g2 d rfl; rw [e1]; rfl
    refine d_notIn (by omega) I g ry fun s3 I3 => ⟨.bl (!ov.isSome), H, I3, rfl, ?_⟩
    rw [← hb]
    exact p _ w H .refl hr (.bl _)
/-- x[i] = v, also of dicts with tuples for keys -/
def setT (o i v : D) (η : Store) : Option Store := match o with
  | .obj k => (match η[k]? with
    | some (.dT kvs) => (match keysD i with
      | some q => if kvs.length < sizeLine then some (η.set k (.dT (putD kvs q v))) else none
      | none => none)
    | _ => none)
  | _ => none
def setX : GSet := fun o i v η => match setT o i v η with
  | some η' => some η'
  | none => setD o i v η
theorem setX_ok (hu : X.A.units + 64 < cLine) : PSet X (rdSet X.K setX) := by
  intro pins s σ H o i v ov iv u Q I r1 r2 r3 ⟨w, η, d1, d2, d3, hr, q1, q2, q3, p⟩
  unfold setX at p
  cases e : setT d1 d2 d3 η with
  | none => rw [e] at p; exact setD_ok hu pins s σ H o i v ov iv u Q I r1 r2 r3 ⟨w, η, d1, d2, d3, hr, q1, q2, q3, p⟩
  | some η' =>
    rw [e] at p
    have hu' : X.A.units + 1 < cLine := by omega
    refine set_dict hu' pins s σ H o i v ov iv u Q I r1 r2 r3 ?_
    cases d1 with
    | obj k =>
      cases q1 with | obj ha => ?_
      unfold setT at e
      dsimp only at e
      cases eo : η[k]? with
      | none => rw [eo] at e; cases e
      | some ob =>
        rw [eo] at e
        cases ob with
        | dT kvs =>
          obtain ⟨xs, eH, f⟩ := hr.at_ _ _ _ ha eo
          dsimp only at e
          cases ek : keysD d2 with
          | none => rw [ek] at e; cases e
          | some q =>
            rw [ek] at e
            dsimp only at e
            split at e
            · rename_i hl
              cases e
              obtain ⟨b, e1, eb, _⟩ := keysD_ok q2 ek
              subst e1
              refine ⟨_, _, rfl, DPut.t eH eb (by rw [repF_length f]; exact hl), ?_⟩
              exact p w _ (Ext.write ha (nf_dT eH) hr) (hr.write ha ⟨_, upd_same, (repF_put f q3).mv (Mv.write ha)⟩)
            · cases e
        | _ => cases e
    | _ => cases e
end
end Dn
/-! Dn part 32: dict displays. -/
namespace Dn
open PySem PySem.Spec PyProof.Rows L2
abbrev FP := Env → Store → R (List (D × D))
def pNil : FP := fun _ η => .ok [] η
def pCons (fk fv : FE) (fp : FP) : FP := fun ρ η => (fk ρ η).bind fun k η => (fv ρ η).bind fun v η => (fp ρ η).bind fun ps η => .ok ((k, v) :: ps) η
section
variable {X : Cx} {W : WX} {K : PySem.W.Frag} {w w1 w' : Wd} {σ : L2.St} {H H1 H' : Hp} {ρ : Env} {η η1 η' : Store} {fk fv : FE} {fp : FP}
def RepPs (K : PySem.W.Frag) (w : Wd) (H : Hp) (vs : List (V × V)) (ds : List (D × D)) : Prop := RepVs K w H (vs.map (·.1)) (ds.map (·.1)) ∧ RepVs K w H (vs.map (·.2)) (ds.map (·.2))
def rdP (K : PySem.W.Frag) (W : WX) (fp : FP) (σ : L2.St) (H : Hp) (Q : List (V × V) → Hp → Prop) : Prop := ∃ w ρ η, Rel K w σ H ρ η ∧ Post K (RepPs K) w H Q (fun c d H' => W c d σ H') (fp ρ η)
structure DP (X : Cx) (W : WX) (pos : Pos) (keys : List (Option Expr)) (values : List Expr) (fp : FP) : Prop where
  ex : ∃ trs, PPs X pos keys values trs ∧ ∀ σ H Q, rdP X.K W fp σ H Q → tPairs trs σ H Q
theorem dp_nil {pos : Pos} : DP X W pos [] [] pNil := ⟨[], pps_nil, fun σ H Q ⟨w, ρ, η, rel, p⟩ => p [] w H .refl rel.heap ⟨.nil, .nil⟩⟩
theorem dp_cons {pos : Pos} {k v : Expr} {ks : List (Option Expr)} {vs : List Expr} (hk : DE X W k fk) (hv : DE X W v fv) (hr : DP X W pos ks vs fp) : DP X W pos (some k :: ks) (v :: vs) (pCons fk fv fp) := by
  obtain ⟨trs, h, m⟩ := hr.ex
  refine ⟨_, pps_cons hk hv h, fun σ H Q ⟨w, ρ, η, rel, p⟩ => ?_⟩
  refine (rdE_then (rep := RepPs X.K) rel p).imp fun x H1 ⟨w1, d1, η1, e1, rel1, r1, p1⟩ => ?_
  refine (rdE_then (rep := RepPs X.K) rel1 p1).imp fun y H2 ⟨w2, d2, η2, e2, rel2, r2, p2⟩ => ?_
  refine m _ _ _ ⟨w2, ρ, η2, rel2, ?_⟩
  cases ef : fp ρ η2 with
  | ok ps η3 =>
    rw [ef] at p2
    intro qs w3 H3 e3 hr3 rq
    exact p2 ((x, y) :: qs) w3 H3 e3 hr3 ⟨.cons ((r1.ext e2).ext e3) rq.1, .cons (r2.ext e3) rq.2⟩
  | exc x η3 => rw [ef] at p2; exact p2
  | no => rw [ef] at p2; exact p2.elim
/-- an object that is being made -/
theorem busy_new {p : Addr} {u : HO} (hr : HeapRel K w1 H1 η1) (hn : H1 p = none) (hu : Ny u) : HeapRel K ⟨w1.io, p :: w1.bz⟩ (upd H1 p u) η1 ∧ Ext w1 H1 ⟨w1.io, p :: w1.bz⟩ (upd H1 p u) := by
  have hnn := hr.new hn
  have m : Mv w1 H1 ⟨w1.io, p :: w1.bz⟩ (upd H1 p u) := ⟨⟨[], by simp⟩, fun c u h _ m n => ⟨by rw [upd_ne (ne_of_none h hn)]; exact h, m, fun q => by
    rcases List.mem_cons.mp q with q | q
    · subst q; rw [hn] at h; cases h
    · exact n q⟩⟩
  refine ⟨⟨hr.len, hr.nd, fun i a ob ha ho => (hr.at_ i a ob ha ho).mv m (upd_ne ?_), fun c hc => ?_, tabs_new hr.tb hn⟩, ⟨m, fun c hc => ⟨List.mem_cons_of_mem _ hc, by obtain ⟨_, u, f, _⟩ := hr.bz c hc; rw [upd_ne (ne_of_none f hn)]⟩, fun c od u h => by rw [upd_ne (ne_of_none h hn)]; exact h⟩⟩
  · intro q; subst q; exact hnn.1 (List.mem_of_getElem? ha)
  · rcases List.mem_cons.mp hc with q | q
    · subst q; exact ⟨hnn.1, _, upd_same, hu⟩
    · obtain ⟨n, u, f, k⟩ := hr.bz c q
      exact ⟨n, u, by rw [upd_ne (ne_of_none f hn)]; exact f, k⟩
/-- it is made: a thing that may change -/
theorem busy_done {p : Addr} {ob : O} {Q : VK} (hr1 : HeapRel K w1 H1 η1) (hn : H1 p = none) (ex : Ext w1 H1 w H) (hb : p ∈ w.bz) (hr : HeapRel K w H η) (ho : RepO K w H p ob)
    (q : ∀ v w' H', Ext w1 H1 w' H' → HeapRel K w' H' (η ++ [ob]) → RepV K w' H' v (.obj η.length) → Q v H') : Q (.ref p) H := by
  have hbs : ∀ c ∈ w1.bz, c ∈ w.bz := fun c hc => (ex.bz c hc).1
  have hnb := (hr1.new hn).2
  have m : Mv w H ⟨w.io ++ [p], w1.bz⟩ H := ⟨⟨[p], rfl⟩, fun c u h _ m n => ⟨h, fun z => by
    rcases List.mem_append.mp z with z | z
    · exact m z
    · have e : c = p := by simpa using z
      subst e; exact n hb, fun z => n (hbs c z)⟩⟩
  refine q _ ⟨w.io ++ [p], w1.bz⟩ H ?_ ?_ (.obj ?_)
  · exact ⟨⟨by obtain ⟨t, e⟩ := ex.pre; exact ⟨t ++ [p], by show w.io ++ [p] = _; rw [e, List.append_assoc]⟩, fun c u h k m n => let ⟨a1, a2, a3⟩ := ex.keep c u h k m n; ⟨a1, (by
      intro z
      rcases List.mem_append.mp z with z | z
      · exact a2 z
      · have e : c = p := by simpa using z
        subst e; rw [hn] at h; cases h), n⟩⟩, fun c hc => ⟨hc, (ex.bz c hc).2⟩, ex.fz⟩
  · refine ⟨by simp [hr.len], ?_, fun i a ob' ha ho' => ?_, fun c hc => ⟨fun z => ?_, (hr.bz c (hbs c hc)).2⟩, hr.tb⟩
    · exact List.nodup_append.mpr ⟨hr.nd, by simp, fun a ha c hc => by
        have e : c = p := by simpa using hc
        subst e
        intro z; subst z
        exact (hr.bz _ hb).1 ha⟩
    · by_cases hi : i < w.io.length
      · rw [List.getElem?_append_left hi] at ha
        rw [List.getElem?_append_left (hr.len ▸ hi)] at ho'
        exact (hr.at_ i a ob' ha ho').mv m rfl
      · have hi' : i = w.io.length := by
          have := (List.getElem?_eq_some_iff.mp ha).1
          simp at this; omega
        subst hi'
        rw [List.getElem?_append_right (Nat.le_refl _)] at ha
        rw [hr.len, List.getElem?_append_right (Nat.le_refl _)] at ho'
        simp at ha ho'
        subst ha ho'
        exact ho.mv m rfl
    · rcases List.mem_append.mp z with z | z
      · exact (hr.bz c (hbs c hc)).1 z
      · have e : c = p := by simpa using z
        subst e; exact hnb hc
  · show (w.io ++ [p])[η.length]? = some p
    rw [← hr.len, List.getElem?_append_right (Nat.le_refl _)]
    simp
def pairsK : List (D × D) → Option (List (Key × D))
  | [] => some []
  | (k, v) :: r => match keyD k, pairsK r with
    | some q, some ps => some ((q, v) :: ps)
    | _, _ => none
theorem pairsK_ok : ∀ {vs : List (V × V)} {ds : List (D × D)} {kvs : List (Key × D)}, RepPs K w H vs ds → pairsK ds = some kvs → ∃ xs : List (Key × V), vs = xs.map (fun kv => (kV kv.1, kv.2)) ∧ RepF K w H xs kvs
  | [], [], _, _, h => by cases h; exact ⟨[], rfl, repF_nil⟩
  | [], _ :: _, _, r, _ => by have := r.1.length; simp at this
  | _ :: _, [], _, r, _ => by have := r.1.length; simp at this
  | (x, y) :: vs, (k, v) :: ds, kvs, r, h => by
    unfold pairsK at h
    cases e1 : keyD k with
    | none => rw [e1] at h; cases h
    | some q =>
      cases e2 : pairsK ds with
      | none => rw [e1, e2] at h; cases h
      | some ps =>
        rw [e1, e2] at h; cases h
        obtain ⟨r1, r2⟩ := r
        cases r1 with | cons a1 b1 => ?_
        cases r2 with | cons a2 b2 => ?_
        obtain ⟨xs, e, f⟩ := pairsK_ok ⟨b1, b2⟩ e2
        obtain ⟨c, _⟩ := keyD_ok a1 e1
        exact ⟨(q, y) :: xs, by rw [List.map_cons, ← e, ← c], repF_cons.mpr ⟨rfl, a2, f⟩⟩
def mkDP (fp : FP) : FE := fun ρ η => (fp ρ η).bind fun ps η => match pairsK ps with
  | some kvs => if kvs.length ≤ 15 then .ok (.obj η.length) (η ++ [.dK (mergeD [] kvs)]) else .no
  | none => .no
theorem de_disp {pos : Pos} {keys : List (Option Expr)} {values : List Expr} (h : DP X W pos keys values fp) (hall : keys.all (·.isSome) = true := by rfl) (hl : keys.length = values.length := by rfl) (h0 : keys ≠ [] := by simp) (h15 : keys.length ≤ 15 := by decide) :
    DE X W (.Dict keys values pos) (mkDP fp) := by
  obtain ⟨trs, hp, m⟩ := h.ex
  refine PE.imp (pe_disp hp hall hl h0 h15) fun σ H Q ⟨w, ρ, η, rel, p⟩ => fun q hq => ?_
  obtain ⟨hb, eb⟩ := busy_new rel.heap hq (u := .dK []) ny_dK
  refine m _ _ _ ⟨_, ρ, η, ⟨rel.env.ext eb, hb⟩, ?_⟩
  unfold mkDP at p
  cases ef : fp ρ η with
  | no => rw [ef] at p; exact p.elim
  | exc x η1 =>
    rw [ef] at p
    intro c d w' H' ex hr rx
    exact p c d w' H' (eb.trans ex) hr rx
  | ok ps η1 =>
    rw [ef] at p
    intro vs w1 H1 e1 hr1 rp
    replace p : Post X.K (RepV X.K) w H Q (fun c d H' => W c d σ H') (match pairsK ps with
      | some kvs => if kvs.length ≤ 15 then .ok (.obj η1.length) (η1 ++ [.dK (mergeD [] kvs)]) else .no
      | none => .no) := p
    cases ek : pairsK ps with
    | none => rw [ek] at p; exact p.elim
    | some kvs =>
      rw [ek] at p
      dsimp only at p
      split at p
      case isFalse => exact p.elim
      rename_i hk
      obtain ⟨xs, ev, f⟩ := pairsK_ok rp ek
      have hb1 := (e1.bz q List.mem_cons_self).1
      have hH1 : H1 q = some (.dK []) := (e1.bz q List.mem_cons_self).2.trans upd_same
      refine ⟨hH1, xs, ev, by rw [repF_length f]; exact hk, ?_⟩
      have hr2 : HeapRel X.K w1 (upd H1 q (.dK (mergeK [] xs))) η1 := hr1.busy ny_dK hb1
      have f2 : RepF X.K w1 (upd H1 q (.dK (mergeK [] xs))) xs kvs := f.mv (Mv.busy hb1)
      exact busy_done (ob := .dK (mergeD [] kvs)) rel.heap hq ((eb.trans e1).busy hq (rel.heap.new hq).2) hb1 hr2 ⟨_, upd_same, repF_merge f2 repF_nil⟩ p
end
end Dn
/-! Dn part 33: the display {k: v} with a tuple for key; wishes of dicts. -/
namespace Dn
open PySem PySem.Spec PyProof.Rows L2
def tDispT (tk tv : TE) : TE := fun σ H Q => ∀ p, H p = none → tk σ (upd H p (.dT [])) fun x H1 => tv σ H1 fun y H2 => H2 p = some (.dT []) ∧ ∃ (ks : List Key) (b : Addr), x = .ref b ∧ H2 b = some (.tup (ks.map kV)) ∧ Q (.ref p) (upd H2 p (.dT [(ks, y)]))
section
variable {X : Cx}
theorem pe_dispT {k v : Expr} {pos : Pos} {tk tv : TE} (hu : X.A.units + 1 < cLine) (hk : PE X k tk) (hv : PE X v tv) : PE X (.Dict [some k] [v] pos) (tDispT tk tv) := by
  refine ⟨fun pins s σ H Q I q => ?_⟩
  have hn := I.hok.fresh (Nat.le_refl s.heap.objs.size)
  have I1 := I.laid (a := s.heap.objs.size) (o := .dT []) (h' := s.heap.push { cls := .type "dict", data := .dict #[] }) (t' := s.toks) (fun _ _ q => Heap.get?_push_of_some _ q) (Nat.le_refl _) (dt_empty s.heap I.big)
  rw [arm_eval_Dict, zip_pairTrees [some k] [v] X.env pos rfl rfl, dictDisplay_pairs (pairTrees [some k] [v] X.env pos) (by simp [pairTrees]) (by simp [pairTrees])]
  refine wpAny_bind (wpAny_standAt (wpAny_bind (wpAny_subDictH (knd := tupleKind (mixKind X.prog X.w)) (Q := fun d s' => wpAny (model X.prog X.w) X.A (pure (Value.ref d)) (EP X pins σ Q) X.xe s') ?_ (by simp [pairTrees]) ?_)))
  · show X.A.units < cLine
    omega
  refine pairTrees_cons_walk (thn (hk.run pins _ σ _ _ I1 (q _ hn)) fun u s1 ⟨x, H1, I2, rx, q1⟩ => thn (hv.run pins s1 σ H1 _ I2 q1) fun u2 s2 ⟨y, H2, I3, ry, e, ks, b, ex, eb, q2⟩ => ?_)
  subst ex
  obtain rfl : u = Value.ref b := rx
  refine pairTrees_nil_walk ?_
  obtain ⟨z, hd, xs, rel, dd⟩ := dt_of I3.hok e
  cases rel
  refine ⟨[(ks, b, u2)], ⟨rfl, rfl, key_of I3.hok eb, trivial⟩, dd, fun h' tk' dd' hs => wpAny_pure ⟨.ref s.heap.objs.size, _, ?_, rfl, q2⟩⟩
  obtain ⟨q', es, ep, hq, h2, h3, h4, _, h5⟩ := dd'
  have rel : L2.KT H2 [] [] := .nil
  refine d_write I3 (by rw [e]; exact True.intro) hs ⟨q', hq⟩ ⟨by show 1 ≤ sizeLine; rw [sizeLine_eq]; omega, hd, _, (rel.put ks eb ry).keeps fun c ys ec => ?_, q', es, ep, hq, h2, h3, h4, h5⟩
  rw [upd_ne (ne_of ec e (fun z => nomatch z))]
  exact ec
/-- {k: v}, the key a tuple -/
def mkDT1 (fk fv : FE) : FE := fun ρ η => (fk ρ η).bind fun k η => (fv ρ η).bind fun v η => match keysD k with
  | some ks => .ok (.obj η.length) (η ++ [.dT [(ks, v)]])
  | none => .no
theorem de_dispT {W : WX} {k v : Expr} {pos : Pos} {fk fv : FE} (hu : X.A.units + 1 < cLine) (hk : DE X W k fk) (hv : DE X W v fv) : DE X W (.Dict [some k] [v] pos) (mkDT1 fk fv) :=
  PE.imp (pe_dispT hu hk hv) fun σ H Q ⟨w, ρ, η, rel, p⟩ => fun q hq => by
    obtain ⟨hb, eb⟩ := busy_new rel.heap hq (u := .dT []) ny_dT
    have rel0 : Rel X.K ⟨w.io, q :: w.bz⟩ σ (upd H q (.dT [])) ρ η := ⟨rel.env.ext eb, hb⟩
    have hnb := (rel.heap.new hq).2
    unfold mkDT1 at p
    refine ⟨_, ρ, η, rel0, ?_⟩
    cases e1 : fk ρ η with
    | no => rw [e1] at p; exact p.elim
    | exc x η1 =>
      rw [e1] at p
      exact fun c d w' H' ex hr rx => p c d w' H' (eb.trans ex) hr rx
    | ok d1 η1 =>
      rw [e1] at p
      intro x w1 H1 ex1 hr1 rx
      refine ⟨w1, ρ, η1, ⟨rel0.env.ext ex1, hr1⟩, ?_⟩
      replace p : Post X.K (RepV X.K) w H Q (fun c d H' => W c d σ H') ((fv ρ η1).bind fun v η => match keysD d1 with
        | some ks => .ok (.obj η.length) (η ++ [.dT [(ks, v)]])
        | none => .no) := p
      cases e2 : fv ρ η1 with
      | no => rw [e2] at p; exact p.elim
      | exc x η2 =>
        rw [e2] at p
        exact fun c d w' H' ex hr rx => p c d w' H' ((eb.trans ex1).trans ex) hr rx
      | ok d2 η2 =>
        rw [e2] at p
        intro y w2 H2 ex2 hr2 ry
        replace p : Post X.K (RepV X.K) w H Q (fun c d H' => W c d σ H') (match keysD d1 with
          | some ks => .ok (.obj η2.length) (η2 ++ [.dT [(ks, d2)]])
          | none => .no) := p
        cases ek : keysD d1 with
        | none => rw [ek] at p; exact p.elim
        | some ks =>
          rw [ek] at p
          have hb2 := ((ex1.trans ex2).bz q List.mem_cons_self).1
          have hH2 : H2 q = some (.dT []) := ((ex1.trans ex2).bz q List.mem_cons_self).2.trans upd_same
          obtain ⟨b, e3, eb3, _⟩ := keysD_ok (rx.ext ex2) ek
          refine ⟨hH2, ks, b, e3, eb3, ?_⟩
          have hr3 : HeapRel X.K w2 (upd H2 q (.dT [(ks, y)])) η2 := hr2.busy ny_dT hb2
          have ry3 : RepV X.K w2 (upd H2 q (.dT [(ks, y)])) y d2 := ry.mv (Mv.busy hb2)
          exact busy_done (ob := .dT [(ks, d2)]) rel.heap hq (((eb.trans ex1).trans ex2).busy hq hnb) hb2 hr3 ⟨_, upd_same, repF_cons.mpr ⟨rfl, ry3, repF_nil⟩⟩ p
end
section
variable {fk fv : FE} {fp : FP} {ρ : Env} {η : Store} {QD : D → Store → Prop} {QP : List (D × D) → Store → Prop} {E : Ex → Store → Prop}
@[simp] theorem w_pNil : wpR (pNil ρ η) QP E ↔ QP [] η := Iff.rfl
@[simp] theorem w_pCons : wpR (pCons fk fv fp ρ η) QP E ↔ wpR (fk ρ η) (fun k η => wpR (fv ρ η) (fun v η => wpR (fp ρ η) (fun ps η => QP ((k, v) :: ps) η) E) E) E := by
  unfold pCons
  rw [wpR_bind]
  refine wpR_congr fun k η => ?_
  rw [wpR_bind]
  refine wpR_congr fun v η => ?_
  rw [wpR_bind]
  exact wpR_congr fun ps η => Iff.rfl
@[simp] theorem w_mkDP : wpR (mkDP fp ρ η) QD E ↔ wpR (fp ρ η) (fun ps η => wpO (pairsK ps) fun kvs => kvs.length ≤ 15 ∧ QD (.obj η.length) (η ++ [.dK (mergeD [] kvs)])) E := by
  unfold mkDP
  rw [wpR_bind]
  refine wpR_congr fun ps η => ?_
  cases pairsK ps with
  | none => exact Iff.rfl
  | some kvs =>
    show wpR (if kvs.length ≤ 15 then _ else _) QD E ↔ _
    by_cases h : kvs.length ≤ 15
    · rw [if_pos h]; exact ⟨fun q => ⟨h, q⟩, fun q => q.2⟩
    · rw [if_neg h]; exact ⟨fun q => q.elim, fun q => h q.1⟩
@[simp] theorem w_mkDT1 : wpR (mkDT1 fk fv ρ η) QD E ↔ wpR (fk ρ η) (fun k η => wpR (fv ρ η) (fun v η => wpO (keysD k) fun ks => QD (.obj η.length) (η ++ [.dT [(ks, v)]])) E) E := by
  unfold mkDT1
  rw [wpR_bind]
  refine wpR_congr fun k η => ?_
  rw [wpR_bind]
  refine wpR_congr fun v η => ?_
  cases keysD k <;> exact Iff.rfl
end
end Dn
/-! Dn part 34: more methods. -/
namespace Dn
open PySem PySem.Spec PyProof.Rows L2
section
variable {X : Cx} {K : PySem.W.Frag} {w : Wd} {H : Hp}
def startsD : D → GL := fun d ds η => match d, ds with
  | .str a, [.str b] => some (.bl (Txt.startswith a b), η)
  | _, _ => none
theorem mtD_startswith : MtR X "str.startswith" (rdM X.K startsD) := mt_of (id := "str.startswith") mt_startswith fun {x xs H Q w η d ds z η'} hr q r h p => by
  unfold startsD at h
  split at h
  · rename_i a b
    cases h; cases q
    cases r with | cons r1 r2 => ?_
    cases r2; cases r1
    exact ⟨_, _, rfl, rfl, val_of p hr (.bl _)⟩
  · cases h
theorem reps_take : ∀ (n : Nat) {vs : List V} {ds : List D}, RepVs K w H vs ds → RepVs K w H (vs.take n) (ds.take n)
  | 0, _, _, _ => .nil
  | n + 1, _, _, .nil => .nil
  | n + 1, _, _, .cons a b => .cons a (reps_take n b)
theorem reps_drop : ∀ (n : Nat) {vs : List V} {ds : List D}, RepVs K w H vs ds → RepVs K w H (vs.drop n) (ds.drop n)
  | 0, _, _, h => h
  | n + 1, _, _, .nil => .nil
  | n + 1, _, _, .cons a b => reps_drop n b
def insD : D → GL := fun d ds η => match ds with
  | [.int i, y] => (match objL d η with
    | some (k, xs) => if xs.length < sizeLine ∧ 0 ≤ i ∧ i < 2 ^ 63 then some (.non, η.set k (.lst (xs.take i.toNat ++ [y] ++ xs.drop i.toNat))) else none
    | none => none)
  | _ => none
theorem mtD_insert : MtR X "list.insert" (rdM X.K insD) := mt_of (id := "list.insert") mt_insert fun hr q r h p => by
  unfold insD at h
  split at h
  · split at h
    · rename_i k xs eo
      split at h
      · rename_i hl
        cases h
        obtain ⟨a, ys, rfl, ha, eH, ry⟩ := objL_ok hr q eo
        obtain ⟨x1, xs1, rfl, q1, q2⟩ := reps_cons r
        obtain ⟨x2, xs2, rfl, q3, q4⟩ := reps_cons q2
        obtain rfl := reps_nil q4
        cases q1
        exact ⟨a, ys, _, x2, rfl, rfl, eH, by rw [ry.length]; exact hl.1, hl.2.1, hl.2.2, wr_of p hr ha eH (((reps_take _ ry).append (.one q3)).append (reps_drop _ ry)) .non⟩
      · cases h
    · cases h
  · cases h
end
end Dn
/-! Dn part 35: a dict of the module: texts to ints. -/
namespace Dn
open PySem PySem.Spec PyProof.Rows L2
def kdE : List (Str × Int) → List DictEntry → Bool
  | [], [] => true
  | (x, i) :: r, e :: es => (match e.key with
    | .str y _ => decide (y = x)
    | _ => false) && ((match e.val with
    | .int j _ => decide (j = i)
    | _ => false) && kdE r es)
  | _, _ => false
def kdB (K : PySem.W.Frag) (x : Str) (kvs : List (Str × Int)) : Bool := match K.lookup (He.ga K x) with
  | some ⟨_, _, .dict es _, _⟩ => kdE kvs es.toList
  | _ => false
theorem kdE_find (z : Str) : ∀ {kvs : List (Str × Int)} {es : List DictEntry}, kdE kvs es = true → (match kvs.lookup z with
    | some i => ∃ e t, es.find? (·.key.isStr z) = some e ∧ e.val = .int i t
    | none => es.find? (·.key.isStr z) = none) ∧ es.any (·.refKey) = false
  | [], [], _ => ⟨rfl, rfl⟩
  | [], _ :: _, h => by cases h
  | _ :: _, [], h => by cases h
  | (x, i) :: r, e :: es, h => by
    unfold kdE at h
    simp only [Bool.and_eq_true] at h
    obtain ⟨h1, h2, h3⟩ := h
    obtain ⟨ih1, ih2⟩ := kdE_find z h3
    obtain ⟨eh, ek, ev⟩ := e
    dsimp only at h1 h2
    cases ek with
    | str y ty =>
      cases ev with
      | int j tj =>
        have e1 : y = x := of_decide_eq_true h1
        have e2 : j = i := of_decide_eq_true h2
        subst e1 e2
        refine ⟨?_, ?_⟩
        · by_cases hz : z = y
          · subst hz
            have l1 : ((z, j) :: r).lookup z = some j := by rw [List.lookup_cons, beq_self_eq_true]
            rw [l1]
            refine ⟨⟨eh, .str z ty, .int j tj⟩, tj, ?_, rfl⟩
            rw [List.find?_cons]
            have : (Value.str z ty).isStr z = true := by show (z == z) = true; exact beq_self_eq_true z
            rw [this]
          · have l1 : ((y, j) :: r).lookup z = r.lookup z := by
              rw [List.lookup_cons]
              have : (z == y) = false := beq_eq_false_iff_ne.mpr hz
              rw [this]
            have f1 : ((⟨eh, .str y ty, .int j tj⟩ : DictEntry) :: es).find? (·.key.isStr z) = es.find? (·.key.isStr z) := by
              rw [List.find?_cons]
              have : (Value.str y ty).isStr z = false := by
                show (y == z) = false
                exact beq_eq_false_iff_ne.mpr fun q => hz q.symm
              rw [this]
            rw [l1, f1]
            exact ih1
        · rw [List.any_cons, ih2]; rfl
      | _ => cases h2
    | _ => cases h1
theorem kdB_ns {K : PySem.W.Frag} {x : Str} {kvs : List (Str × Int)} (h : kdB K x kvs = true) (z : Str) : match kvs.lookup z with
    | some i => ∃ t, PySem.W.nsIn K (He.ga K x) z = some (some (.int i t))
    | none => PySem.W.nsIn K (He.ga K x) z = some none := by
  unfold kdB at h
  unfold PySem.W.nsIn
  split at h
  · rename_i es _ _ e
    rw [e]
    dsimp only
    obtain ⟨h1, h2⟩ := kdE_find z h
    cases el : kvs.lookup z with
    | none =>
      rw [el] at h1
      dsimp only at h1 ⊢
      rw [h1, h2]
      rfl
    | some i =>
      rw [el] at h1
      dsimp only at h1 ⊢
      obtain ⟨en, t, f, v⟩ := h1
      rw [f]
      refine ⟨t, ?_⟩
      show some (some en.val) = _
      rw [v]
  · cases h
section
variable {X : Cx} {x : Str} {kvs : List (Str × Int)}
/-- z in x, x a dict of the module -/
def inKd (x : Str) (kvs : List (Str × Int)) : G2 := fun d p η => match d, p with
  | .str z, .gl q => if q = x then some (.bl (kvs.lookup z).isSome, η) else none
  | _, _ => none
def notInKd (x : Str) (kvs : List (Str × Int)) : G2 := fun d p η => match d, p with
  | .str z, .gl q => if q = x then some (.bl (!(kvs.lookup z).isSome), η) else none
  | _, _ => none
def ixKd (x : Str) (kvs : List (Str × Int)) : G2 := fun p d η => match p, d with
  | .gl q, .str z => if q = x then (match kvs.lookup z with
    | some i => some (.int i, η)
    | none => none) else none
  | _, _ => none
theorem opD_inK (D : ∃ es n, KDict X.K X.w (He.ga X.K x) es n) (h : kdB X.K x kvs = true) : OpR X (compareOp .In) (rd2 X.K (inKd x kvs)) := by
  obtain ⟨es, n, D⟩ := D
  refine op_of (op_in_kd D) fun hr r1 r2 e p => ?_
  unfold inKd at e
  split at e
  · rename_i z q
    split at e
    · rename_i hq
      cases e; subst hq
      cases r1; cases r2
      have hk := kdB_ns h z
      cases el : kvs.lookup z with
      | none => rw [el] at hk p; exact ⟨z, none, rfl, rfl, hk, val_of p hr (.bl _)⟩
      | some i => rw [el] at hk p; obtain ⟨t, hk⟩ := hk; exact ⟨z, some _, rfl, rfl, hk, val_of p hr (.bl _)⟩
    · cases e
  · cases e
theorem opD_notInK (D : ∃ es n, KDict X.K X.w (He.ga X.K x) es n) (h : kdB X.K x kvs = true) : OpR X (compareOp .NotIn) (rd2 X.K (notInKd x kvs)) := by
  obtain ⟨es, n, D⟩ := D
  refine op_of (op_notIn_kd D) fun hr r1 r2 e p => ?_
  unfold notInKd at e
  split at e
  · rename_i z q
    split at e
    · rename_i hq
      cases e; subst hq
      cases r1; cases r2
      have hk := kdB_ns h z
      cases el : kvs.lookup z with
      | none => rw [el] at hk p; exact ⟨z, none, rfl, rfl, hk, val_of p hr (.bl _)⟩
      | some i => rw [el] at hk p; obtain ⟨t, hk⟩ := hk; exact ⟨z, some _, rfl, rfl, hk, val_of p hr (.bl _)⟩
    · cases e
  · cases e
theorem ixD_K (D : ∃ es n, KDict X.K X.w (He.ga X.K x) es n) (h : kdB X.K x kvs = true) : IxR X (rd2 X.K (ixKd x kvs)) := by
  obtain ⟨es, n, D⟩ := D
  refine ix_of ix_kdict fun hr r1 r2 e p => ?_
  unfold ixKd at e
  split at e
  · rename_i q z
    split at e
    · rename_i hq
      subst hq
      cases r1; cases r2
      have hk := kdB_ns h z
      cases el : kvs.lookup z with
      | none => rw [el] at e; cases e
      | some i =>
        rw [el] at hk e
        cases e
        obtain ⟨t, hk⟩ := hk
        exact ⟨_, z, .int i, rfl, rfl, ⟨es, n, _, D.at_, D.lit, hk, ⟨t, rfl⟩⟩, val_of p hr (.int _)⟩
    · cases e
  · cases e
end
end Dn
/-! Dn part 36: d.get. -/
namespace Dn
open PySem PySem.Spec PyProof.Rows L2
section
variable {X : Cx} {W : WX} {K : PySem.W.Frag} {w w1 : Wd} {σ : L2.St} {H H1 : Hp} {ρ : Env} {η η1 : Store} {fo fe ff : FE} {o e f : Expr} {apos cpos : Pos}
def isDct (x : D) (η : Store) : Bool := match x with
  | .obj k => (match η[k]? with
    | some (.dK _) => true
    | some (.dT _) => true
    | _ => false)
  | _ => false
theorem isDct_ok {v : V} {x : D} (hr : HeapRel K w H η) (r : RepV K w H v x) (h : isDct x η = true) : ∃ a, v = .ref a ∧ IsD H a := by
  cases x with
  | obj k =>
    cases r with | obj ha => ?_
    unfold isDct at h
    dsimp only at h
    cases eo : η[k]? with
    | none => rw [eo] at h; cases h
    | some ob =>
      rw [eo] at h
      cases ob with
      | dK kvs => obtain ⟨xs, e, _⟩ := hr.at_ _ _ _ ha eo; exact ⟨_, rfl, .inl ⟨_, .inl e⟩⟩
      | dT kvs => obtain ⟨xs, e, _⟩ := hr.at_ _ _ _ ha eo; exact ⟨_, rfl, .inr ⟨_, .inl e⟩⟩
      | _ => cases h
  | _ => cases h
def eGet1 (fo fe : FE) : FE := fun ρ η => (fo ρ η).bind fun x η => if isDct x η = true then (fe ρ η).bind fun i η => (match dget x i η with
  | some (some d) => .ok d η
  | some none => .ok .non η
  | none => .no) else .no
def eGet2 (fo fe ff : FE) : FE := fun ρ η => (fo ρ η).bind fun x η => if isDct x η = true then (fe ρ η).bind fun i η => (ff ρ η).bind fun z η => (match dget x i η with
  | some (some d) => .ok d η
  | some none => .ok z η
  | none => .no) else .no
theorem de_get2 (hu : X.A.units + 1 < cLine) (ho : DE X W o fo) (he : DE X W e fe) (hf : DE X W f ff) (m : M2 X o "get" apos e f cpos) : DE X W (.Call (.Attribute o "get" apos) [e, f] [] cpos) (eGet2 fo fe ff) :=
  PE.imp (pe_dget2 hu ho he hf m) fun σ H Q ⟨w, ρ, η, rel, p⟩ => by
    refine (rdE_then rel p).imp fun v H1 ⟨w1, d1, η1, e1, rel1, r1, p1⟩ => ?_
    split at p1
    case isFalse => exact p1.elim
    rename_i hd
    obtain ⟨a, ev, id⟩ := isDct_ok rel1.heap r1 hd
    refine ⟨a, ev, id, ?_⟩
    refine (rdE_then rel1 p1).imp fun u H2 ⟨w2, d2, η2, e2, rel2, r2, p2⟩ => ?_
    refine (rdE_then rel2 p2).imp fun z H3 ⟨w3, d3, η3, e3, rel3, r3, p3⟩ => ?_
    cases eg : dget d1 d2 η3 with
    | none => rw [eg] at p3; exact p3.elim
    | some oo =>
      rw [eg] at p3
      obtain ⟨a', ov, ev', g, g1, g2⟩ := dget_ok rel3.heap ((r1.ext e2).ext e3) (r2.ext e3) eg
      rw [ev] at ev'
      cases ev'
      refine ⟨ov, g, ?_⟩
      cases oo with
      | none => rw [g1 rfl]; exact p3 z w3 H3 .refl rel3.heap r3
      | some d => obtain ⟨y, e4, ry⟩ := g2 d rfl; rw [e4]; exact p3 y w3 H3 .refl rel3.heap ry
theorem de_get1 (hu : X.A.units + 1 < cLine) (ho : DE X W o fo) (he : DE X W e fe) (m : M1 X o "get" apos e cpos) : DE X W (.Call (.Attribute o "get" apos) [e] [] cpos) (eGet1 fo fe) :=
  PE.imp (pe_dget1 hu ho he m) fun σ H Q ⟨w, ρ, η, rel, p⟩ => by
    refine (rdE_then rel p).imp fun v H1 ⟨w1, d1, η1, e1, rel1, r1, p1⟩ => ?_
    split at p1
    case isFalse => exact p1.elim
    rename_i hd
    obtain ⟨a, ev, id⟩ := isDct_ok rel1.heap r1 hd
    refine ⟨a, ev, id, ?_⟩
    refine (rdE_then rel1 p1).imp fun u H2 ⟨w2, d2, η2, e2, rel2, r2, p2⟩ => ?_
    cases eg : dget d1 d2 η2 with
    | none => rw [eg] at p2; exact p2.elim
    | some oo =>
      rw [eg] at p2
      obtain ⟨a', ov, ev', g, g1, g2⟩ := dget_ok rel2.heap (r1.ext e2) r2 eg
      rw [ev] at ev'
      cases ev'
      refine ⟨ov, g, ?_⟩
      cases oo with
      | none => rw [g1 rfl]; exact p2 .non w2 H2 .refl rel2.heap .non
      | some d => obtain ⟨y, e4, ry⟩ := g2 d rfl; rw [e4]; exact p2 y w2 H2 .refl rel2.heap ry
end
end Dn
/-! Dn part 37: enumerate(zip(x, y)) over lists. -/
namespace Dn
open PySem PySem.Spec PyProof.Rows L2
section
variable {prog : Program} {w : World} {A : Around} {E : Value → Shared → Prop} {s : Shared}
theorem alive_none {a : Addr} {Q : Option Obj → Shared → Prop} (ho : s.heap.get? a = none) (h : Q none s) : wpAny (model prog w) A (loadIfAlive a) Q E s := by
  have q : Q (s.heap.get? a) s := by rw [ho]; exact h
  exact fun _ _ _ => q
abbrev zipO (f0 : Value) (fb : Bool) (TI TO : Addr) : Obj := { cls := .type "zip", dict := none, data := .fields #[f0, .bool fb, .bool false, .ref TI, .ref TO], slots := #[] }
abbrev ZipF (h : Heap) (z TI TO : Addr) (f0 : Value) (fb : Bool) : Prop := h.get? z = some (zipO f0 fb TI TO)
theorem free_gone {z TI TO T : Addr} {fb : Bool} {Q : Bool → Shared → Prop} (hz : IsZipHeld s.heap z TI TO T fb) (gone : s.heap.get? T = none) (h : Q true s) : wpAny (model prog w) A (Builtin.SmallTypes.ownedTupleIsFree (.ref z)) Q E s := by
  unfold Builtin.SmallTypes.ownedTupleIsFree
  refine wpAny_bind (wpAny_field hz rfl (x := rawInt T) rfl ?_)
  show wpAny _ _ (loadIfAlive ((T : Int).toNat) >>= _) _ _ _
  rw [Int.toNat_natCast]
  refine wpAny_bind (alive_none gone ?_)
  exact wpAny_pure h
theorem gone_item {z TI TO T i1 i2 l1 l2 : Addr} {fb : Bool} {k1 k2 : Nat} {xs ys : Array Value} {x y a b : Value} {Q : Value → Shared → Prop} (D : ZipApart z TI TO i1 i2 l1 l2)
    (hz : IsZipHeld s.heap z TI TO T fb) (gone : s.heap.get? T = none) (ti : IsPair s.heap TI (.ref i1) (.ref i2)) (tO : IsPair s.heap TO a b)
    (q1 : s.heap.IsListIter i1 l1 k1) (q2 : s.heap.IsListIter i2 l2 k2) (p1 : s.heap.IsList l1 xs) (p2 : s.heap.IsList l2 ys) (ex : xs[k1]? = some x) (ey : ys[k2]? = some y)
    (hQ : ∀ g : Heap, IsZip g z TI TO (rawInt s.heap.objs.size) → IsPair g TO x y → g.IsListIter i1 l1 (k1 + 1) → g.IsListIter i2 l2 (k2 + 1) → IsPair g s.heap.objs.size x y → g.objs.size = s.heap.objs.size + 1 →
      (∀ c o, c ≠ z → c ≠ TO → c ≠ i1 → c ≠ i2 → s.heap.get? c = some o → g.get? c = some o) → Q (.ref s.heap.objs.size) { s with heap := g }) :
    wpAny (model prog w) A (Builtin.«zip.__next__» ⟨[.ref z], []⟩) (fun fin t => ∃ v, fin = .done (.ret v) ∧ Q v t) E s := by
  show wpAny _ _ (field (.ref z) 2 >>= _) _ _ _
  refine wpAny_bind (wpAny_field hz rfl (x := .bool false) rfl ?_)
  show wpAny _ _ (field (.ref z) 3 >>= _) _ _ _
  refine wpAny_bind (wpAny_field hz rfl (x := .ref TI) rfl ?_)
  refine wpAny_bind (wpAny_seqItems ti rfl ?_)
  show wpAny _ _ (Builtin.SmallTypes.ownedTupleIsFree (.ref z) >>= _) _ _ _
  refine wpAny_bind (free_gone hz gone ?_)
  simp only [if_true]
  refine wpAny_bind (wpAny_rule (wpAny_bind (wpAny_field hz rfl (x := .ref TO) rfl (wpAny_bind (wpAny_setField_rec hz (by simp) fun g1 z1 s1 => ?_)))))
  have w1 : ZipF g1 z TI TO .ellipsis fb := z1
  refine wpAny_bind ?_
  simp only [List.zipIdx_cons, List.zipIdx_nil, List.forIn_cons, List.forIn_nil]
  refine wpAny_bind (wpAny_bind (wpAny_onRaise ?_))
  show wpAny _ _ (Builtin.SmallTypes.nextOf (.ref i1) >>= _) _ _ _
  have u1 := fun c (n : c ≠ z) (o : Obj) (e : s.heap.get? c = some o) => s1.extBut c o n e
  refine wpAny_bind (wpAny_nextOf_list_item (q1.at (u1 _ D.i1z)) (p1.at (u1 _ D.l1z)) ex fun g2 r1 s2 => wpAny_pure ?_)
  have u2 := fun c (n : c ≠ z) (m : c ≠ i1) (o : Obj) (e : s.heap.get? c = some o) => s2.extBut c o m (u1 c n o e)
  have t2 : IsPair g2 TO a b := u2 _ D.TOz D.TOi1 _ tO
  refine wpAny_bind (wpAny_seqItems t2 rfl (wpAny_bind (wpAny_updateSeq_pair t2 fun g3 t3 s3 => ?_)))
  have t3' : IsPair g3 TO x b := t3
  refine wpAny_bind (wpAny_letGo (wpAny_pure (wpAny_bind (wpAny_bind (wpAny_onRaise ?_)))))
  show wpAny _ _ (Builtin.SmallTypes.nextOf (.ref i2) >>= _) _ _ _
  have u3 := fun c (n : c ≠ z) (m : c ≠ i1) (k : c ≠ TO) (o : Obj) (e : s.heap.get? c = some o) => s3.extBut c o k (u2 c n m o e)
  refine wpAny_bind (wpAny_nextOf_list_item (q2.at (u3 _ D.i2z D.i12.symm D.TOi2.symm)) (p2.at (u3 _ D.l2z D.l2i1 D.l2TO)) ey fun g4 r2 s4 => wpAny_pure ?_)
  have t4 : IsPair g4 TO x b := s4.extBut _ _ D.TOi2 t3'
  refine wpAny_bind (wpAny_seqItems t4 rfl (wpAny_bind (wpAny_updateSeq_pair t4 fun g5 t5 s5 => ?_)))
  have t5' : IsPair g5 TO x y := t5
  refine wpAny_bind (wpAny_letGo (wpAny_pure (wpAny_pure ?_)))
  refine wpAny_bind (wpAny_seqItems t5' rfl (wpAny_bind (wpAny_newTuple ?_)))
  have sz : g5.objs.size = s.heap.objs.size := by rw [s5.1, s4.1, s3.1, s2.1, s1.1]
  have w5 : ZipF g5 z TI TO .ellipsis fb := s5.extBut _ _ D.TOz.symm (s4.extBut _ _ D.i2z.symm (s3.extBut _ _ D.TOz.symm (s2.extBut _ _ D.i1z.symm w1)))
  have u5 := fun c (n : c ≠ z) (k : c ≠ TO) (m : c ≠ i1) (j : c ≠ i2) (o : Obj) (e : s.heap.get? c = some o) => s5.extBut c o k (s4.extBut c o j (u3 c n m k o e))
  have r15 : g5.IsListIter i1 l1 (k1 + 1) := r1.at fun o e => s5.extBut _ o D.TOi1.symm (s4.extBut _ o D.i12 (s3.extBut _ o D.TOi1.symm e))
  have r25 : g5.IsListIter i2 l2 (k2 + 1) := r2.at fun o e => s5.extBut _ o D.TOi2.symm e
  have zl : z < g5.objs.size := Heap.lt_size w5
  show wpAny _ _ (Builtin.SmallTypes.ownedTupleHandOut (.ref z) (.ref g5.objs.size) >>= _) _ _ _
  refine wpAny_bind ?_
  unfold Builtin.SmallTypes.ownedTupleHandOut
  have w6 : ZipF (g5.push { cls := .type "tuple", data := .seq #[x, y] }) z TI TO .ellipsis fb := Heap.get?_push_of_some _ w5
  refine wpAny_bind (wpAny_setField_rec w6 (by simp) fun g7 z7 s7 => ?_)
  have w7 : ZipF g7 z TI TO (rawInt g5.objs.size) fb := z7
  refine wpAny_setField_rec w7 (by simp) fun g8 z8 s8 => ?_
  have w8 : IsZip g8 z TI TO (rawInt g5.objs.size) := z8
  have up := fun c (n : c ≠ z) (o : Obj) (e : g5.get? c = some o) => s8.extBut c o n (s7.extBut c o n (Heap.get?_push_of_some _ e))
  have p8 : IsPair g8 g5.objs.size x y := s8.extBut _ _ (Nat.ne_of_gt zl) (s7.extBut _ _ (Nat.ne_of_gt zl) (Heap.get?_push_size _ rfl))
  have sz8 : g8.objs.size = g5.objs.size + 1 := by rw [s8.1, s7.1, Heap.size_push]
  rw [sz] at w8 p8 sz8
  refine wpAny_pure ⟨_, rfl, ?_⟩
  show Q (.ref g5.objs.size) _
  rw [sz]
  exact hQ g8 w8 (up _ D.TOz _ t5') (r15.at fun o e => up _ D.i1z o e) (r25.at fun o e => up _ D.i2z o e) p8 sz8 fun c o n k m j e => up c n o (u5 c n k m j o e)
theorem gone_end {z TI TO T i1 i2 l1 l2 : Addr} {fb : Bool} {k1 k2 : Nat} {xs ys : Array Value} {a b : Value} {Q : Fin → Shared → Prop} (hh : A.handled = none) (D : ZipApart z TI TO i1 i2 l1 l2)
    (hz : IsZipHeld s.heap z TI TO T fb) (gone : s.heap.get? T = none) (ti : IsPair s.heap TI (.ref i1) (.ref i2)) (tO : IsPair s.heap TO a b)
    (q1 : s.heap.IsListIter i1 l1 k1) (q2 : s.heap.IsListIter i2 l2 k2) (p1 : s.heap.IsList l1 xs) (p2 : s.heap.IsList l2 ys) (no : xs[k1]? = none ∨ ys[k2]? = none)
    (hE : ∀ (g : Heap) e, (∀ c o, c ≠ z → c ≠ TO → c ≠ i1 → c ≠ i2 → s.heap.get? c = some o → g.get? c = some o) → (∃ o, g.get? e = some o ∧ o.cls = .type "StopIteration") → E (.ref e) { s with heap := g }) :
    wpAny (model prog w) A (Builtin.«zip.__next__» ⟨[.ref z], []⟩) Q E s := by
  show wpAny _ _ (field (.ref z) 2 >>= _) _ _ _
  refine wpAny_bind (wpAny_field hz rfl (x := .bool false) rfl ?_)
  show wpAny _ _ (field (.ref z) 3 >>= _) _ _ _
  refine wpAny_bind (wpAny_field hz rfl (x := .ref TI) rfl (wpAny_bind (wpAny_seqItems ti rfl ?_)))
  show wpAny _ _ (Builtin.SmallTypes.ownedTupleIsFree (.ref z) >>= _) _ _ _
  refine wpAny_bind (free_gone hz gone ?_)
  simp only [if_true]
  refine wpAny_bind (wpAny_rule (wpAny_bind (wpAny_field hz rfl (x := .ref TO) rfl (wpAny_bind (wpAny_setField_rec hz (by simp) fun g1 z1 s1 => ?_)))))
  have w1 : ZipF g1 z TI TO .ellipsis fb := z1
  refine wpAny_bind ?_
  simp only [List.zipIdx_cons, List.zipIdx_nil, List.forIn_cons, List.forIn_nil]
  refine wpAny_bind (wpAny_bind (wpAny_onRaise ?_))
  show wpAny _ _ (Builtin.SmallTypes.nextOf (.ref i1) >>= _) _ _ _
  have u1 := fun c (n : c ≠ z) (o : Obj) (e : s.heap.get? c = some o) => s1.extBut c o n e
  cases ex : xs[k1]? with
  | none =>
    refine wpAny_bind (wpAny_nextOf_list_end hh (q1.at (u1 _ D.i1z)) (p1.at (u1 _ D.l1z)) ex fun g2 er s2 ⟨oe, he, ce⟩ => ?_)
    have w2 : ZipF g2 z TI TO .ellipsis fb := s2 _ _ D.i1z.symm w1
    have ne : er ≠ z := fun q => by subst q; rw [w2] at he; cases he; simp at ce
    exact wpAny_setField_rec w2 (by simp) fun g3 _ s3 => hE g3 er (fun c o n _ m _ e => s3.extBut _ _ n (s2 _ _ m (u1 c n o e))) ⟨oe, s3.extBut _ _ ne he, ce⟩
  | some x =>
    have ey : ys[k2]? = none := by rcases no with h | h; rw [ex] at h; cases h; exact h
    refine wpAny_bind (wpAny_nextOf_list_item (q1.at (u1 _ D.i1z)) (p1.at (u1 _ D.l1z)) ex fun g2 r1 s2 => wpAny_pure ?_)
    have u2 := fun c (n : c ≠ z) (m : c ≠ i1) (o : Obj) (e : s.heap.get? c = some o) => s2.extBut c o m (u1 c n o e)
    have t2 : IsPair g2 TO a b := u2 _ D.TOz D.TOi1 _ tO
    refine wpAny_bind (wpAny_seqItems t2 rfl (wpAny_bind (wpAny_updateSeq_pair t2 fun g3 t3 s3 => ?_)))
    refine wpAny_bind (wpAny_letGo (wpAny_pure (wpAny_bind (wpAny_bind (wpAny_onRaise ?_)))))
    show wpAny _ _ (Builtin.SmallTypes.nextOf (.ref i2) >>= _) _ _ _
    have u3 := fun c (n : c ≠ z) (m : c ≠ i1) (k : c ≠ TO) (o : Obj) (e : s.heap.get? c = some o) => s3.extBut c o k (u2 c n m o e)
    refine wpAny_bind (wpAny_nextOf_list_end hh (q2.at (u3 _ D.i2z D.i12.symm D.TOi2.symm)) (p2.at (u3 _ D.l2z D.l2i1 D.l2TO)) ey fun g4 er s4 ⟨oe, he, ce⟩ => ?_)
    have w4 : ZipF g4 z TI TO .ellipsis fb := s4 _ _ D.i2z.symm (s3.extBut _ _ D.TOz.symm (s2.extBut _ _ D.i1z.symm w1))
    have ne : er ≠ z := fun q => by subst q; rw [w4] at he; cases he; simp at ce
    exact wpAny_setField_rec w4 (by simp) fun g5 _ s5 => hE g5 er (fun c o n k m j e => s5.extBut _ _ n (s4 _ _ j (u3 c n m k o e))) ⟨oe, s5.extBut _ _ ne he, ce⟩
/-- a zip of two lists at its i-th turn, whatever became of the pair ahead -/
structure ZS (h : Heap) (z TI TO i1 i2 l1 l2 : Addr) (i : Nat) : Prop where
  z : IsZip h z TI TO .none ∨ ∃ (T : Addr) (fb : Bool), IsZipHeld h z TI TO T fb
  ti : IsPair h TI (.ref i1) (.ref i2)
  tO : ∃ a b, IsPair h TO a b
  a : h.IsListIter i1 l1 i
  b : h.IsListIter i2 l2 i
theorem ZS.typ {z TI TO i1 i2 l1 l2 : Addr} {i : Nat} (S : ZS s.heap z TI TO i1 i2 l1 l2 i) : s.TypeIs (.ref z) "zip" := by
  rcases S.z with h | ⟨T, fb, h⟩
  · exact ⟨_, h, rfl⟩
  · exact ⟨_, h, rfl⟩
theorem zs_item {z TI TO i1 i2 l1 l2 : Addr} {i : Nat} {xs ys : Array Value} {x y : Value} {Q : Value → Shared → Prop} (D : ZipApart z TI TO i1 i2 l1 l2) (S : ZS s.heap z TI TO i1 i2 l1 l2 i)
    (p1 : s.heap.IsList l1 xs) (p2 : s.heap.IsList l2 ys) (ex : xs[i]? = some x) (ey : ys[i]? = some y)
    (hQ : ∀ g : Heap, ZS g z TI TO i1 i2 l1 l2 (i + 1) → IsPair g s.heap.objs.size x y → g.objs.size = s.heap.objs.size + 1 →
      (∀ c o, c ≠ z → c ≠ TO → c ≠ i1 → c ≠ i2 → s.heap.get? c = some o → g.get? c = some o) → Q (.ref s.heap.objs.size) { s with heap := g }) :
    wpAny (model prog w) A (Builtin.SmallTypes.nextOf (.ref z)) Q E s := by
  obtain ⟨zz, ti, ⟨a, b, tO⟩, q1, q2⟩ := id S
  unfold Builtin.SmallTypes.nextOf
  refine wpAny_bind (wpAny_callSpecial?_slot (name := Str.ofString "__next__") S.typ F.slot_zip_next (wpAny_call_entry F.slot_zip_next S.typ F.entry_zip_next ?_ (F.args_zip_next_1 _)))
  rcases zz with hz | ⟨T, fb, hz⟩
  · exact zip_next_item D hz ti tO q1 q2 p1 p2 ex ey fun g g1 g2 g3 g4 g5 g6 gk => wpAny_pure (hQ g ⟨.inr ⟨_, _, g1⟩, gk _ _ D.TIz D.TITO D.TIi1 D.TIi2 ti, ⟨_, _, g2⟩, g3, g4⟩ g5 g6 gk)
  · cases al : s.heap.get? T with
    | some oT => exact zip_next_item_held D hz al ti q1 q2 p1 p2 ex ey fun g g1 g3 g4 g5 g6 gk => wpAny_pure (hQ g ⟨.inr ⟨_, _, g1⟩, gk _ _ D.TIz D.TIi1 D.TIi2 ti, ⟨_, _, gk _ _ D.TOz D.TOi1 D.TOi2 tO⟩, g3, g4⟩ g5 g6 fun c o n _ m j e => gk c o n m j e)
    | none => exact gone_item D hz al ti tO q1 q2 p1 p2 ex ey fun g g1 g2 g3 g4 g5 g6 gk => wpAny_pure (hQ g ⟨.inr ⟨_, _, g1⟩, gk _ _ D.TIz D.TITO D.TIi1 D.TIi2 ti, ⟨_, _, g2⟩, g3, g4⟩ g5 g6 gk)
theorem zs_end {z TI TO i1 i2 l1 l2 : Addr} {i : Nat} {xs ys : Array Value} {Q : Value → Shared → Prop} (hh : A.handled = none) (D : ZipApart z TI TO i1 i2 l1 l2) (S : ZS s.heap z TI TO i1 i2 l1 l2 i)
    (p1 : s.heap.IsList l1 xs) (p2 : s.heap.IsList l2 ys) (no : xs[i]? = none ∨ ys[i]? = none)
    (hE : ∀ (g : Heap) e, (∀ c o, c ≠ z → c ≠ TO → c ≠ i1 → c ≠ i2 → s.heap.get? c = some o → g.get? c = some o) → (∃ o, g.get? e = some o ∧ o.cls = .type "StopIteration") → E (.ref e) { s with heap := g }) :
    wpAny (model prog w) A (Builtin.SmallTypes.nextOf (.ref z)) Q E s := by
  obtain ⟨zz, ti, ⟨a, b, tO⟩, q1, q2⟩ := id S
  unfold Builtin.SmallTypes.nextOf
  refine wpAny_bind (wpAny_callSpecial?_slot (name := Str.ofString "__next__") S.typ F.slot_zip_next (wpAny_call_entry F.slot_zip_next S.typ F.entry_zip_next ?_ (F.args_zip_next_1 _)))
  rcases zz with hz | ⟨T, fb, hz⟩
  · exact zip_next_end hh D hz ti tO q1 q2 p1 p2 no hE
  · cases al : s.heap.get? T with
    | some oT => exact zip_next_end_held hh D hz al ti q1 q2 p1 p2 no fun g e gk => hE g e fun c o n _ m j q => gk c o n m j q
    | none => exact gone_end hh D hz al ti tO q1 q2 p1 p2 no hE
/-- enumerate's next, over a zip -/
theorem ez_item {e z TI TO i1 i2 l1 l2 : Addr} {i : Nat} {xs ys : Array Value} {x y old : Value} {Q : Value → Shared → Prop} (D : ZipApart z TI TO i1 i2 l1 l2) (he : IsEnum s.heap e z i old) (S : ZS s.heap z TI TO i1 i2 l1 l2 i)
    (hez : e ≠ z) (heO : e ≠ TO) (he1 : e ≠ i1) (he2 : e ≠ i2) (heI : e ≠ TI) (p1 : s.heap.IsList l1 xs) (p2 : s.heap.IsList l2 ys) (ex : xs[i]? = some x) (ey : ys[i]? = some y)
    (hQ : ∀ (g : Heap) tk, IsEnumOut g e z ((i : Int) + 1) (.ref s.heap.objs.size) (s.heap.objs.size + 1) → ZS g z TI TO i1 i2 l1 l2 (i + 1) → IsPair g s.heap.objs.size x y →
      g.get? (s.heap.objs.size + 1) = some { cls := .type "tuple", data := .seq #[.int i tk, .ref s.heap.objs.size] } → g.objs.size = s.heap.objs.size + 2 →
      (∀ c o, c ≠ e → c ≠ z → c ≠ TO → c ≠ i1 → c ≠ i2 → s.heap.get? c = some o → g.get? c = some o) → Q (.ref (s.heap.objs.size + 1)) { s with heap := g, toks := tk + 1 }) :
    wpAny (model prog w) A (Builtin.«enumerate.__next__» ⟨[.ref e], []⟩) (fun fin t => ∃ v, fin = .done (.ret v) ∧ Q v t) E s := by
  obtain ⟨hp, gg, dd, tk, os⟩ := s
  show wpAny _ _ (field (.ref e) 2 >>= _) _ _ _
  refine wpAny_bind (wpAny_field he rfl (x := .ref z) rfl (wpAny_bind (zs_item D S p1 p2 ex ey fun g1 S1 pr sz1 k1 => ?_)))
  have e1 : IsEnum g1 e z i old := k1 _ _ hez heO he1 he2 he
  show wpAny _ _ (field (.ref e) 3 >>= _) _ _ ⟨g1, gg, dd, tk, os⟩
  refine wpAny_bind (wpAny_field e1 rfl (x := rawInt i) rfl ?_)
  show wpAny _ _ (field (.ref e) 4 >>= _) _ _ ⟨g1, gg, dd, tk, os⟩
  refine wpAny_bind (wpAny_field e1 rfl (x := .none) rfl ?_)
  show wpAny _ _ (mkInt i >>= _) _ _ ⟨g1, gg, dd, tk, os⟩
  refine wpAny_bind (wpAny_mkInt ?_)
  show wpAny _ _ (setField (.ref e) 3 (rawInt ((i : Int) + 1)) >>= _) _ _ ⟨g1, gg, dd, tk + 1, os⟩
  refine wpAny_bind (wpAny_setField_rec e1 (by simp) fun g2 f2 s2 => ?_)
  have e2 : IsEnum g2 e z ((i : Int) + 1) old := f2
  show wpAny _ _ (setField (.ref e) 4 .none >>= _) _ _ ⟨g2, gg, dd, tk + 1, os⟩
  refine wpAny_bind (wpAny_setField_rec e2 (by simp) fun g3 f3 s3 => ?_)
  have e3 : IsEnum g3 e z ((i : Int) + 1) old := f3
  have sz3 : g3.objs.size = hp.objs.size + 1 := by rw [s3.1, s2.1]; exact sz1
  have el : e < hp.objs.size := Heap.lt_size he
  show wpAny _ _ (newTuple [.int i tk, .ref hp.objs.size] >>= _) _ _ ⟨g3, gg, dd, tk + 1, os⟩
  refine wpAny_bind (wpAny_newTuple ?_)
  have e4 : IsEnum (g3.push { cls := .type "tuple", data := .seq #[.int i tk, .ref hp.objs.size] }) e z ((i : Int) + 1) old := Heap.get?_push_of_some _ e3
  have t4 : (g3.push { cls := .type "tuple", data := .seq #[.int i tk, .ref hp.objs.size] }).get? (hp.objs.size + 1) = some { cls := .type "tuple", data := .seq #[.int i tk, .ref hp.objs.size] } := by
    rw [← sz3]; exact Heap.get?_push_size _ rfl
  have sz4 : (g3.push { cls := .type "tuple", data := .seq #[.int i tk, .ref hp.objs.size] }).objs.size = hp.objs.size + 2 := by rw [Heap.size_push, sz3]
  have k4 : ∀ c o, c ≠ e → g1.get? c = some o → (g3.push { cls := .type "tuple", data := .seq #[.int i tk, .ref hp.objs.size] }).get? c = some o := fun c o n q => Heap.get?_push_of_some _ (s3.extBut _ _ n (s2.extBut _ _ n q))
  generalize g3.push { cls := .type "tuple", data := .seq #[.int i tk, .ref hp.objs.size] } = g4 at e4 t4 sz4 k4
  show wpAny _ _ (Builtin.SmallTypes.ownedTupleIsFree (.ref e) >>= _) _ _ ⟨g4, gg, dd, tk + 1, os⟩
  rw [sz3]
  refine wpAny_bind ?_
  unfold Builtin.SmallTypes.ownedTupleIsFree
  refine wpAny_bind (wpAny_field e4 rfl (x := .none) rfl (wpAny_pure ?_))
  simp only [if_true]
  refine wpAny_bind (wpAny_rule (wpAny_bind (wpAny_field e4 rfl (x := old) rfl (wpAny_bind (wpAny_setField_rec e4 (by simp) fun g5 f5 s5 => ?_)))))
  have e5 : IsEnum g5 e z ((i : Int) + 1) (.ref hp.objs.size) := f5
  show wpAny _ _ (Builtin.SmallTypes.ownedTupleHandOut (.ref e) (.ref (hp.objs.size + 1)) >>= _) _ _ ⟨g5, gg, dd, tk + 1, os⟩
  refine wpAny_bind ?_
  unfold Builtin.SmallTypes.ownedTupleHandOut
  refine wpAny_bind (wpAny_setField_rec e5 (by simp) fun g6 f6 s6 => ?_)
  have e6 : IsEnumOut g6 e z ((i : Int) + 1) (.ref hp.objs.size) (hp.objs.size + 1) := f6
  refine wpAny_setField_rec e6 (by simp) fun g7 f7 s7 => ?_
  have e7 : IsEnumOut g7 e z ((i : Int) + 1) (.ref hp.objs.size) (hp.objs.size + 1) := f7
  have k7 : ∀ c o, c ≠ e → g4.get? c = some o → g7.get? c = some o := fun c o n q => s7.extBut _ _ n (s6.extBut _ _ n (s5.extBut _ _ n q))
  have kk : ∀ c o, c ≠ e → g1.get? c = some o → g7.get? c = some o := fun c o n q => k7 c o n (k4 c o n q)
  have S7 : ZS g7 z TI TO i1 i2 l1 l2 (i + 1) := ⟨S1.z.elim (fun q => .inl (kk _ _ hez.symm q)) fun ⟨T, fb, q⟩ => .inr ⟨T, fb, kk _ _ hez.symm q⟩, kk _ _ heI.symm S1.ti,
    (let ⟨a, b, q⟩ := S1.tO; ⟨a, b, kk _ _ heO.symm q⟩), S1.a.at fun o q => kk _ o he1.symm q, S1.b.at fun o q => kk _ o he2.symm q⟩
  refine wpAny_bind (wpAny_letGo (wpAny_pure ⟨_, rfl, hQ g7 tk e7 S7 (kk _ _ (Nat.ne_of_gt el) pr) ?_ ?_ ?_⟩))
  · exact k7 _ _ (Nat.ne_of_gt (Nat.lt_succ_of_lt el)) t4
  · rw [s7.1, s6.1, s5.1]; exact sz4
  · exact fun c o n m k j l q => kk c o n (k1 c o m k j l q)
theorem py_ez_item {e z TI TO i1 i2 l1 l2 : Addr} {i : Nat} {xs ys : Array Value} {x y old : Value} {Q : Option Value → Shared → Prop} (D : ZipApart z TI TO i1 i2 l1 l2) (he : IsEnum s.heap e z i old) (S : ZS s.heap z TI TO i1 i2 l1 l2 i)
    (hez : e ≠ z) (heO : e ≠ TO) (he1 : e ≠ i1) (he2 : e ≠ i2) (heI : e ≠ TI) (p1 : s.heap.IsList l1 xs) (p2 : s.heap.IsList l2 ys) (ex : xs[i]? = some x) (ey : ys[i]? = some y)
    (hQ : ∀ (g : Heap) tk, IsEnumOut g e z ((i : Int) + 1) (.ref s.heap.objs.size) (s.heap.objs.size + 1) → ZS g z TI TO i1 i2 l1 l2 (i + 1) → IsPair g s.heap.objs.size x y →
      g.get? (s.heap.objs.size + 1) = some { cls := .type "tuple", data := .seq #[.int i tk, .ref s.heap.objs.size] } → g.objs.size = s.heap.objs.size + 2 →
      (∀ c o, c ≠ e → c ≠ z → c ≠ TO → c ≠ i1 → c ≠ i2 → s.heap.get? c = some o → g.get? c = some o) → Q (some (.ref (s.heap.objs.size + 1))) { s with heap := g, toks := tk + 1 }) :
    wpAny (model prog w) A (pyNext (.ref e)) Q E s := by
  have hT : s.TypeIs (.ref e) "enumerate" := ⟨_, he, rfl⟩
  unfold pyNext
  refine wpAny_bind (wpAny_attempt (wpAny_callSpecial?_slot (name := Str.ofString "__next__") hT F.slot_enumerate_next (wpAny_call_entry F.slot_enumerate_next hT F.entry_enumerate_next ?_ (F.args_enumerate_next_1 _))))
  exact ez_item D he S hez heO he1 he2 heI p1 p2 ex ey fun g tk a b c d k q => wpAny_pure (hQ g tk a b c d k q)
theorem py_ez_end {e z TI TO i1 i2 l1 l2 : Addr} {i : Nat} {xs ys : Array Value} {old : Value} {Q : Option Value → Shared → Prop} (hh : A.handled = none) (D : ZipApart z TI TO i1 i2 l1 l2) (he : IsEnum s.heap e z i old) (S : ZS s.heap z TI TO i1 i2 l1 l2 i)
    (p1 : s.heap.IsList l1 xs) (p2 : s.heap.IsList l2 ys) (no : xs[i]? = none ∨ ys[i]? = none)
    (hQ : ∀ g : Heap, (∀ c o, c ≠ z → c ≠ TO → c ≠ i1 → c ≠ i2 → s.heap.get? c = some o → g.get? c = some o) → Q none { s with heap := g }) :
    wpAny (model prog w) A (pyNext (.ref e)) Q E s := by
  have hT : s.TypeIs (.ref e) "enumerate" := ⟨_, he, rfl⟩
  unfold pyNext
  refine wpAny_bind (wpAny_attempt (wpAny_callSpecial?_slot (name := Str.ofString "__next__") hT F.slot_enumerate_next (wpAny_call_entry F.slot_enumerate_next hT F.entry_enumerate_next ?_ (F.args_enumerate_next_1 _))))
  show wpAny _ _ (field (.ref e) 2 >>= _) _ _ _
  refine wpAny_bind (wpAny_field he rfl (x := .ref z) rfl (wpAny_bind (zs_end hh D S p1 p2 no fun g er gk ⟨o, ho, hc⟩ => ?_)))
  exact wpAny_bind (wpAny_isInstance (T := "StopIteration") (b := true) ⟨o, ho, hc⟩ isSubtype_stop (wpAny_pure (hQ g gk)))
end
end Dn
/-! Dn part 38: for a, (b, c) in enumerate(zip(x, y)). -/
namespace Dn
open PySem PySem.Spec PyProof.Rows L2
def ItEZ (K : PySem.W.Frag) (a b : Addr) : It :=
  ⟨fun i H => ∃ (xs ys : List V) (x y : V), SqL K H a xs ∧ SqL K H b ys ∧ xs[i]? = some x ∧ ys[i]? = some y,
    fun i H v H' => ∃ T U x y, v = .ref U ∧ H T = none ∧ H U = none ∧ U ≠ T ∧ H' = upd (upd H T (.tup [x, y])) U (.tup [.int (i : Nat), .ref T]) ∧ (∀ xs, SqL K H a xs → xs[i]? = some x) ∧ ∀ ys, SqL K H b ys → ys[i]? = some y,
    fun i H => ∃ xs ys : List V, SqL K H a xs ∧ SqL K H b ys ∧ i ≤ xs.length ∧ i ≤ ys.length ∧ (i = xs.length ∨ i = ys.length)⟩
theorem Inv.turnedTwo {X : Cx} {pins : List (Addr × Obj)} {σ : L2.St} {H : Hp} {s : Shared} {h' : Heap} {t' : Nat} {ch : List Addr} {T U : Addr} {o1 o2 : HO} (I : Inv X pins σ H s) (k : ∀ b o, b ∉ ch → s.heap.get? b = some o → h'.get? b = some o)
    (hf : ∀ b ∈ ch, FpOk X pins H b) (hT : s.heap.objs.size ≤ T) (hU : s.heap.objs.size ≤ U) (ne : U ≠ T) (n1 : ∀ g : Heap, (∀ b, b ≠ U → g.get? b = h'.get? b) → ObjOk X.prog X.w (upd H T o1) g T o1) (n2 : ObjOk X.prog X.w (upd (upd H T o1) U o2) h' U o2) :
    Inv X pins σ (upd (upd H T o1) U o2) { s with heap := h', toks := t' } := by
  obtain ⟨g, g1, g2⟩ := restrict h' fun b => decide (b ≠ U)
  have gs : ∀ b, b ≠ U → g.get? b = h'.get? b := fun b hb => g1 b (decide_eq_true hb)
  have gu : g.get? U = none := g2 U (decide_eq_false fun z => z rfl)
  have I1 : Inv X pins σ (upd H T o1) { s with heap := g, toks := t' } := I.turnedNew (t' := t') (ch := ch) (fun b o hb e => by
    rw [gs b (Nat.ne_of_lt (Nat.lt_of_lt_of_le (Heap.lt_size e) hU))]; exact k b o hb e) hf hT (n1 g gs)
  have hn : (upd H T o1) U = none := by rw [upd_ne ne]; exact I.hok.fresh hU
  exact I1.laidN (t' := t') (fun b o e => by
    by_cases hb : b = U
    · subst hb; rw [gu] at e; cases e
    · rw [← gs b hb]; exact e) gu hn n2
theorem turn_ez {P : Program} {w : World} {K : PySem.W.Frag} {elts : List Expr} {kk : Nat} {tpos : Pos} {a b e z TI TO i1 i2 : Addr} (D : ZipApart z TI TO i1 i2 a b) (hez : e ≠ z) (heO : e ≠ TO) (he1 : e ≠ i1) (he2 : e ≠ i2) (heI : e ≠ TI) :
    Turn P w K (.Tuple elts kk tpos) (ItEZ K a b) [e, z, TI, TO, i1, i2] e (fun i h => (∃ old, IsEnum h e z i old) ∧ ZS h z TI TO i1 i2 a b i) where
  mem := by simp
  obj := fun i h ⟨⟨old, he⟩, S⟩ c hc => by
    have e' : c = e ∨ c = z ∨ c = TI ∨ c = TO ∨ c = i1 ∨ c = i2 := by simpa using hc
    rcases e' with q | q | q | q | q | q
    · rw [q]; exact ⟨_, he, fun v q => nomatch q⟩
    · rw [q]
      rcases S.z with hz | ⟨T, fb, hz⟩
      · exact ⟨_, hz, fun v q => nomatch q⟩
      · exact ⟨_, hz, fun v q => nomatch q⟩
    · rw [q]; exact ⟨_, S.ti, fun v q => nomatch q⟩
    · rw [q]; obtain ⟨x, y, q⟩ := S.tO; exact ⟨_, q, fun v q => nomatch q⟩
    · rw [q]; obtain ⟨o, e1, _, d⟩ := S.a; exact ⟨o, e1, fun v q => by rw [d] at q; cases q⟩
    · rw [q]; obtain ⟨o, e1, _, d⟩ := S.b; exact ⟨o, e1, fun v q => by rw [d] at q; cases q⟩
  keep := fun i h h' ⟨⟨old, he⟩, S⟩ k => ⟨⟨old, k e (by simp) _ he⟩, ⟨S.z.elim (fun q => .inl (k z (by simp) _ q)) fun ⟨T, fb, q⟩ => .inr ⟨T, fb, k z (by simp) _ q⟩, k TI (by simp) _ S.ti,
    (let ⟨x, y, q⟩ := S.tO; ⟨x, y, k TO (by simp) _ q⟩), S.a.at fun o q => k i1 (by simp) o q, S.b.at fun o q => k i2 (by simp) o q⟩⟩
  item := by
    intro X hP hw hK hc i pins s σ H E I hf ⟨⟨old, he⟩, S⟩ hg
    subst hP hw hK
    obtain ⟨xs, ys, x, y, hqx, hqy, hx, hy⟩ := hg
    obtain ⟨its, rv, p, _⟩ := I.list hqx
    obtain ⟨its2, rv2, p2, _⟩ := I.list hqy
    obtain ⟨u, hu, ru⟩ := rv.get hx
    obtain ⟨u2, hu2, ru2⟩ := rv2.get hy
    refine py_ez_item D he S hez heO he1 he2 heI p.isList p2.isList (x := u) (y := u2) (by simpa using hu) (by simpa using hu2) fun g tk eo S' pr pu sz kk => ⟨_, rfl, ?_⟩
    refine wpAny_letOwnedTupleGo_enum eo fun g' e' sb => ?_
    have kk' : ∀ c o, c ≠ e → g.get? c = some o → g'.get? c = some o := fun c o n q => sb.extBut c o n q
    have el : e < s.heap.objs.size := Heap.lt_size he
    have pr' := kk' _ _ (Nat.ne_of_gt el) pr
    have pu' := kk' _ _ (Nat.ne_of_gt (Nat.lt_succ_of_lt el)) pu
    have hn := I.hok.fresh (Nat.le_refl s.heap.objs.size)
    have hn2 := I.hok.fresh (Nat.le_succ s.heap.objs.size)
    have hfr : ∀ c, s.heap.objs.size ≤ c → ∀ b ∈ [e, z, TI, TO, i1, i2], b ≠ c := fun c hle b hb q => by
      obtain ⟨o, ho, _⟩ : ∃ o, s.heap.get? b = some o ∧ True := by
        have e' : b = e ∨ b = z ∨ b = TI ∨ b = TO ∨ b = i1 ∨ b = i2 := by simpa using hb
        rcases e' with q | q | q | q | q | q
        · rw [q]; exact ⟨_, he, trivial⟩
        · rw [q]
          rcases S.z with hz | ⟨T, fb, hz⟩
          · exact ⟨_, hz, trivial⟩
          · exact ⟨_, hz, trivial⟩
        · rw [q]; exact ⟨_, S.ti, trivial⟩
        · rw [q]; obtain ⟨x, y, q⟩ := S.tO; exact ⟨_, q, trivial⟩
        · rw [q]; obtain ⟨o, e1, _⟩ := S.a; exact ⟨o, e1, trivial⟩
        · rw [q]; obtain ⟨o, e1, _⟩ := S.b; exact ⟨o, e1, trivial⟩
      exact absurd (Heap.lt_size ho) (Nat.not_lt.mpr (by rw [q]; exact hle))
    refine ⟨.ref (s.heap.objs.size + 1), upd (upd H s.heap.objs.size (.tup [x, y])) (s.heap.objs.size + 1) (.tup [.int (i : Nat), .ref s.heap.objs.size]), ?_, rfl, ⟨_, _, x, y, rfl, hn, hn2, Nat.succ_ne_self _, rfl, fun l hl => by rw [I.list_inj hl hqx]; exact hx, fun l hl => by rw [I.list_inj hl hqy]; exact hy⟩, ⟨⟨_, by simpa using e'⟩, ?_⟩, fun c hcm => ?_⟩
    · refine Inv.turnedTwo (s := s) (h' := g') (t' := tk + 1) (ch := [e, z, TO, i1, i2]) I (fun c o hb q => ?_) (fun c hb => hf c ?_) (Nat.le_refl _) (Nat.le_succ _) (Nat.succ_ne_self _) (fun G hG => ?_) ?_
      · exact kk' c o (fun q' => hb (by simp [q'])) (kk c o (fun q' => hb (by simp [q'])) (fun q' => hb (by simp [q'])) (fun q' => hb (by simp [q'])) (fun q' => hb (by simp [q'])) (fun q' => hb (by simp [q'])) q)
      · have e' : c = e ∨ c = z ∨ c = TO ∨ c = i1 ∨ c = i2 := by simpa using hb
        rcases e' with q | q | q | q | q <;> simp [q]
      · exact ⟨show 2 ≤ sizeLine by decide, [u, u2], .cons ru (.cons ru2 .nil), ⟨_, by rw [hG _ (Nat.ne_of_lt (Nat.lt_succ_self _))]; exact pr', rfl, _, rfl⟩⟩
      · exact ⟨show 2 ≤ sizeLine by decide, [.int i tk, .ref s.heap.objs.size], .cons ⟨tk, rfl⟩ (.cons rfl .nil), ⟨_, pu', rfl, _, rfl⟩⟩
    · exact ⟨S'.z.elim (fun q => .inl (kk' _ _ hez.symm q)) fun ⟨T, fb, q⟩ => .inr ⟨T, fb, kk' _ _ hez.symm q⟩, kk' _ _ heI.symm S'.ti, (let ⟨x, y, q⟩ := S'.tO; ⟨x, y, kk' _ _ heO.symm q⟩), S'.a.at fun o q => kk' _ o he1.symm q, S'.b.at fun o q => kk' _ o he2.symm q⟩
    · rw [upd_ne (hfr _ (Nat.le_succ _) c hcm), upd_ne (hfr _ (Nat.le_refl _) c hcm)]
      exact (hf c hcm).1
  done := by
    intro X hP hw hK hc i pins s σ H E I hf ⟨⟨old, he⟩, S⟩ hg
    subst hP hw hK
    obtain ⟨xs, ys, hqx, hqy, le1, le2, hend⟩ := hg
    obtain ⟨its, rv, p, _⟩ := I.list hqx
    obtain ⟨its2, rv2, p2, _⟩ := I.list hqy
    have l1 := rv.length
    have l2 := rv2.length
    refine py_ez_end (I.ok.hd hc) D he S p.isList p2.isList (by
      rcases hend with q | q
      · exact .inl (by simp; omega)
      · exact .inr (by simp; omega)) fun g gk => ⟨rfl, ?_⟩
    exact I.turnedL (t' := s.toks) (ch := [e, z, TI, TO, i1, i2]) (fun c o hb q => gk c o (fun q' => hb (by simp [q'])) (fun q' => hb (by simp [q'])) (fun q' => hb (by simp [q'])) (fun q' => hb (by simp [q'])) q) hf
  self := fun A i s Q E st h => let ⟨⟨_, he⟩, _⟩ := st; wpAny_pyIter_enum he h
set_option maxHeartbeats 1000000 in
theorem meets_enum_zip (z : Addr) (TI TO : Addr) :
    Meets (Builtin.«enumerate.__new__» ⟨[.type "enumerate", .ref z], []⟩) (fun _ R s => IsZip s.heap z TI TO .none ∧
      R (.ok (.ret (.ref s.heap.objs.size))) { s with heap := s.heap.push { cls := .type "enumerate", data := .fields #[.none, .bool false, .ref z, rawInt 0, .none, .none] } }) :=
  .of_wp fun prog w A R s h => by
    obtain ⟨hp, g, d, tk, os⟩ := s; obtain ⟨h1, h⟩ := h
    have hsub := sub_enumerate
    have q1 : ∀ {A' : Around} {E : Value → Shared → Prop} {Q : Value → Shared → Prop} {tk : Nat}, Q (.ref z) ⟨hp, g, d, tk, os⟩ → wpAny (model prog w) A' (pyIter (.ref z)) Q E ⟨hp, g, d, tk, os⟩ :=
      fun q => wpAny_pyIter_zip h1 q
    wp_walk using q1
    refine wpAny_stack_any fun st => wpAny_pure ?_
    split
    · rename_i c _ _ _ _ _
      cases (c == Value.type "enumerate")
      · wp_walk using q1
        exact ⟨_, rfl, h⟩
      · wp_walk using q1
        exact ⟨_, rfl, h⟩
    · wp_walk using q1
      exact ⟨_, rfl, h⟩
theorem enum_zip_begins {prog : Program} {w : World} {A : Around} {E : Value → Shared → Prop} {s : Shared} {z TI TO : Addr} {Q : Value → Shared → Prop} (hz : IsZip s.heap z TI TO .none)
    (h : ∀ h', IsEnum h' s.heap.objs.size z 0 .none → h'.objs.size = s.heap.objs.size + 1 → (∀ b o, s.heap.get? b = some o → h'.get? b = some o) → Q (.ref s.heap.objs.size) { s with heap := h' }) :
    wpAny (model prog w) A (call (.type "enumerate") [.ref z]) Q E s := by
  refine callType_new F.called_enumerate (by decide) (F.typeCall_enumerate_1 _) (F.newCall_enumerate_1 _) (fun obj => F.args_object_init_2 obj _) F.entry_enumerate_new (meets_enum_zip z TI TO) ⟨hz, ?_⟩
  have he : IsEnum (s.heap.push { cls := .type "enumerate", data := .fields #[.none, .bool false, .ref z, rawInt 0, .none, .none] }) s.heap.objs.size z 0 .none := Heap.get?_push_size _ rfl
  exact ⟨⟨_, he, rfl⟩, h _ he (Heap.size_push ..) fun b o x => Heap.get?_push_of_some _ x⟩
section
variable {X : Cx} {W : WX} {K : PySem.W.Frag} {w w1 w' : Wd} {H H1 H' : Hp} {η : Store} {fA : FA} {p p2 pos pos2 tpos : Pos} {e e2 : Expr}
theorem itOk_ez {a b : Addr} {src : Src} (h : ItOk K (It2 K false false a b) src w H) : ItOk K (ItEZ K a b) (enumS src) w H := by
  have go : ∀ i w' H' η x, Ext w H w' H' → HeapRel K w' H' η → src.at i η = some x →
      (ItEZ K a b).go i H' ∧ ∀ v H2, (ItEZ K a b).yld i H' v H2 → Ext w' H' w' H2 ∧ HeapRel K w' H2 η ∧ RepV K w' H2 v (.tup [.int (i : Nat), x]) := fun i w' H' η x ex hr e1 => by
    obtain ⟨g, y⟩ := h.go i w' H' η x ex hr e1
    refine ⟨g, fun v H2 ⟨T, U, u, u2, ev, n1, n2, ne, eH, g1, g2⟩ => ?_⟩
    subst ev eH
    obtain ⟨ex2, hr2, rv⟩ := y (.ref T) (upd H' T (.tup [u, u2])) ⟨T, u, u2, rfl, n1, rfl, g1, g2⟩
    have n3 : (upd H' T (.tup [u, u2])) U = none := by rw [upd_ne ne]; exact n2
    exact ⟨ex2.trans (Ext.laid n3 hr2), hr2.laid n3, RepV.newT hr2 (.cons (.int _) (.cons rv .nil)) n3⟩
  have stop : ∀ i w' H' η, Ext w H w' H' → HeapRel K w' H' η → src.fin i η → (ItEZ K a b).stop i H' := fun i w' H' η ex hr f1 => h.stop i w' H' η ex hr f1
  cases src with
  | val xs =>
    refine ⟨fun i w' H' η x ex hr hx => ?_, fun i w' H' η ex hr hf => stop i w' H' η ex hr ?_⟩
    · have hx' : (xs.zipIdx.map fun q => D.tup [.int (q.2 : Nat), q.1])[i]? = some x := hx
      rw [List.getElem?_map, List.getElem?_zipIdx] at hx'
      cases e : xs[i]? with
      | none => rw [e] at hx'; cases hx'
      | some y =>
        rw [e] at hx'
        simp at hx'
        subst hx'
        exact go i w' H' η y ex hr e
    · have hf' : (xs.zipIdx.map fun q => D.tup [.int (q.2 : Nat), q.1]).length = i := hf
      show xs.length = i
      simpa using hf'
  | dyn f =>
    refine ⟨fun i w' H' η x ex hr hx => ?_, fun i w' H' η ex hr hf => stop i w' H' η ex hr ?_⟩
    · dsimp only [enumS, Src.at] at hx
      split at hx
      · rename_i z ez
        cases hx
        split at ez
        · rename_i e
          cases ez
          exact go i w' H' η _ ex hr (by dsimp only [Src.at]; rw [e])
        · cases ez
        · cases ez
      · cases hx
    · dsimp only [enumS, Src.fin] at hf
      split at hf
      · cases hf
      · rename_i e; exact e
      · cases hf
def iEZ (fA : FA) : FI := fun ρ η => (fA ρ η).bind fun ds η => match ds with
  | [x, y] => if lisD x && lisD y then (match sqOf x η, sqOf y η with
    | some s1, some s2 => .ok (enumS (zipS s1 s2)) η
    | _, _ => .no) else .no
  | _ => .no
theorem apart_new {N a b : Nat} (ha : a < N) (hb : b < N) : ZipApart (N + 4) (N + 2) (N + 3) N (N + 1) a b := by
  have h : ∀ {i j : Nat}, i ≠ j → N + i ≠ N + j := fun h q => h (Nat.add_left_cancel q)
  have h0 : ∀ {i : Nat}, 0 ≠ i → N ≠ N + i := fun h q => h (Nat.add_left_cancel (n := N) q)
  have k : ∀ {c i : Nat}, c < N → c ≠ N + i := fun h => Nat.ne_of_lt (Nat.lt_of_lt_of_le h (Nat.le_add_right _ _))
  exact ⟨h (by decide), h (by decide), h0 (by decide), h (by decide), h (by decide), (h0 (by decide)).symm, h (by decide), (h0 (by decide)).symm, h (by decide), h0 (by decide), k ha, k ha, Nat.ne_of_lt ha, k ha, k hb, k hb, Nat.ne_of_lt hb, k hb⟩
theorem add_ne {N i j : Nat} (h : i ≠ j) : N + i ≠ N + j := fun q => h (Nat.add_left_cancel q)
/-- for a, (b, c) in enumerate(zip(x, y)), both lists -/
theorem di_ez {elts : List Expr} {kk : Nat} (hm : X.mg "enumerate" = none) (hm2 : X.mg "zip" = none) (ha : DA X W [e, e2] fA) (hg : Gl X "enumerate" := by rfl) (hg2 : Gl X "zip" := by rfl)
    (hs0 : starEach [Expr.Call (.Name "zip" p2) [e, e2] [] pos2] X.env = [(false, eval (.Call (.Name "zip" p2) [e, e2] [] pos2) X.env)] := by rfl)
    (hs : starEach [e, e2] X.env = (false, eval e X.env) :: starEach [e2] X.env := by rfl) (hpl : (backTo pos2 (starEach [e2] X.env)).any (·.1) = false := by rfl) :
    DI X W (.Tuple elts kk tpos) (.Call (.Name "enumerate" p) [.Call (.Name "zip" p2) [e, e2] [] pos2] [] pos) (iEZ fA) := by
  refine ⟨fun pins s σ H R I ⟨w, ρ, η, rel, hp⟩ => ?_⟩
  refine Call_ (ld_blt I hg hm boot_enumerate (PyProof.Rows.callWith_type1 ?_ hs0 rfl))
  rw [hs0]
  refine Calls.spliced_cons ?_
  refine Call_ (ld_blt I hg2 hm2 PyProof.Rows.boot_zip (PyProof.Rows.callWith_type1 (thn (ha.run pos2 pins s σ H _ I (rdA_then rel hp)) fun us s1 ⟨vs, H1, I1, r1, w1, ds, η1, ex, rel1, rv, p1⟩ => ?_) hs hpl))
  split at p1
  case h_2 => exact p1.elim
  rename_i x y
  split at p1
  case isFalse => exact p1.elim
  rename_i hl
  have hl' := Bool.and_eq_true_iff.mp hl
  split at p1
  case h_2 => exact p1.elim
  rename_i s1' s2' q1 q2
  cases rv with | cons rv1 rr => ?_
  cases rr with | cons rv2 rr => ?_
  cases rr
  obtain ⟨a, ea, k1⟩ := sqOk_l rel1.heap rv1 q1 hl'.1
  obtain ⟨b, eb, k2⟩ := sqOk_l rel1.heap rv2 q2 hl'.2
  subst ea eb
  cases r1 with | cons r1 rr => ?_
  cases rr with | cons r2 rr => ?_
  cases rr; cases r1; cases r2
  obtain ⟨xs, hx⟩ := k1.now
  obtain ⟨ys, hy⟩ := k2.now
  obtain ⟨its, _, pa, _⟩ := inv_seq I1 hx
  obtain ⟨its2, _, pb, _⟩ := inv_seq I1 hy
  have la := seq_lt I1 hx
  have lb := seq_lt I1 hy
  refine zip_begins2 (begins_s false a its.toArray) (begins_s false b its2.toArray) pa pb fun h' hz hTI hTO g1 g2 hsz hk => ?_
  have I2 : Inv X pins σ H1 { s1 with heap := h' } := I1.kept (t' := s1.toks) hk
  refine Calls.spliced_nil ?_
  refine enum_zip_begins hz fun h2 he hsz2 hk2 => wpAny_pyIter_enum he ?_
  have I3 : Inv X pins σ H1 { s1 with heap := h2 } := I2.kept (t' := s1.toks) hk2
  have hsz' : h'.objs.size = s1.heap.objs.size + 5 := hsz
  have D : ZipApart (s1.heap.objs.size + 4) (s1.heap.objs.size + 2) (s1.heap.objs.size + 3) s1.heap.objs.size (s1.heap.objs.size + 1) a b := apart_new la lb
  have he' : IsEnum h2 (s1.heap.objs.size + 5) (s1.heap.objs.size + 4) 0 .none := by rw [← hsz']; exact he
  have ev : Value.ref h'.objs.size = .ref (s1.heap.objs.size + 5) := by rw [hsz']
  refine ⟨s1.heap.objs.size + 5, [s1.heap.objs.size + 5, s1.heap.objs.size + 4, s1.heap.objs.size + 2, s1.heap.objs.size + 3, s1.heap.objs.size, s1.heap.objs.size + 1], _, ItEZ X.K a b, H1, ev, I3, turn_ez D (add_ne (by decide)) (add_ne (by decide)) (Nat.ne_of_gt (Nat.lt_add_of_pos_right (by decide))) (add_ne (by decide)) (add_ne (by decide)),
    ⟨⟨.none, by simpa using he'⟩, ⟨.inl (hk2 _ _ hz), hk2 _ _ hTI, ⟨_, _, hk2 _ _ hTO⟩, ⟨_, hk2 _ _ g1, rfl, rfl⟩, ⟨_, hk2 _ _ g2, rfl, rfl⟩⟩⟩, fun c hc => ?_, ?_⟩
  · have e' : c = s1.heap.objs.size + 5 ∨ c = s1.heap.objs.size + 4 ∨ c = s1.heap.objs.size + 2 ∨ c = s1.heap.objs.size + 3 ∨ c = s1.heap.objs.size ∨ c = s1.heap.objs.size + 1 := by simpa using hc
    have hle : s1.heap.objs.size ≤ c := by
      rcases e' with z | z | z | z | z | z
      · rw [z]; exact Nat.le_add_right _ _
      · rw [z]; exact Nat.le_add_right _ _
      · rw [z]; exact Nat.le_add_right _ _
      · rw [z]; exact Nat.le_add_right _ _
      · rw [z]; exact Nat.le_refl _
      · rw [z]; exact Nat.le_add_right _ _
    exact I1.fpOk hle (I1.hok.fresh hle)
  · exact p1 _ w1 H1 .refl rel1.heap (itOk_ez (itOk_zip k1 k2))
end
end Dn
/-! Dn part 39: walks of dicts, which are locked meanwhile. -/
namespace Dn
open PySem PySem.Spec PyProof.Rows L2
section
variable {X : Cx} {W : WX} {K : PySem.W.Frag} {w w1 w' : Wd} {σ : L2.St} {H H1 H' : Hp} {ρ : Env} {η η1 η' : Store} {a : Addr} {k : Nat} {e tg : Expr} {st : Stmt} {f : FE} {s : FS}
/-! ### what is walked -/
theorem fst_get {κ α β : Type} {xs : List (κ × α)} {fs : List (κ × β)} (h : xs.map (·.1) = fs.map (·.1)) {i : Nat} {q : κ × β} (e : fs[i]? = some q) : ∃ v, xs[i]? = some (q.1, v) := by
  have h2 : (xs.map (·.1))[i]? = (fs.map (·.1))[i]? := by rw [h]
  rw [List.getElem?_map, List.getElem?_map, e] at h2
  cases ex : xs[i]? with
  | none => rw [ex] at h2; cases h2
  | some p =>
    rw [ex] at h2
    have : p.1 = q.1 := Option.some.inj h2
    exact ⟨p.2, by rw [← this]⟩
theorem itOk_keys {od : Obj} {xs : List (Key × V)} {kvs : List (Key × D)} (eH : H a = some (.frz od (.dK xs))) (r : RepF K w H xs kvs) : ItOk K (Itk a od xs) (.val (kvs.map fun kv => dK kv.1)) w H := by
  refine ⟨fun i w1 H1 η x ex hr hx => ?_, fun i w1 H1 η ex hr hf => ⟨ex.fz _ _ _ eH, ?_⟩⟩
  · have hx' : (kvs.map fun kv => dK kv.1)[i]? = some x := hx
    rw [List.getElem?_map] at hx'
    cases eq : kvs[i]? with
    | none => rw [eq] at hx'; cases hx'
    | some q =>
      rw [eq] at hx'
      cases hx'
      obtain ⟨v, ev⟩ := fst_get r.1 eq
      refine ⟨⟨ex.fz _ _ _ eH, (List.getElem?_eq_some_iff.mp ev).1⟩, fun u H2 ⟨e2, k', v', e3, e4⟩ => ?_⟩
      subst e2 e4
      rw [ev] at e3
      cases e3
      exact ⟨.refl, hr, rep_key _⟩
  · have hf' : (kvs.map fun kv => dK kv.1).length = i := hf
    rw [repF_length r, ← hf']; simp
theorem rep_keys : ∀ ks : List Key, RepVs K w H (ks.map kV) (ks.map dK)
  | [] => .nil
  | k :: ks => .cons (rep_key k) (rep_keys ks)
theorem StT.of_heap {xs : List V} (hr : HeapRel K w H η) (h : H a = some (.tup xs)) : StT K w H a xs := by
  refine ⟨h, fun z => ?_, fun z => ?_⟩
  · obtain ⟨u, e, n⟩ := hr.trkN z
    rw [h] at e; cases e
    exact n.2.2 _ rfl
  · obtain ⟨_, u, e, n⟩ := hr.bz a z
    rw [h] at e; cases e
    exact n.2.2 _ rfl
theorem itOk_keysT {od : Obj} {xs : List (List Key × V)} {kvs : List (List Key × D)} (eH : H a = some (.frz od (.dT xs))) (r : RepF K w H xs kvs) : ItOk K (Itkt a od xs) (.val (kvs.map fun kv => .tup (kv.1.map dK))) w H := by
  refine ⟨fun i w1 H1 η x ex hr hx => ?_, fun i w1 H1 η ex hr hf => ⟨ex.fz _ _ _ eH, ?_⟩⟩
  · have hx' : (kvs.map fun kv => D.tup (kv.1.map dK))[i]? = some x := hx
    rw [List.getElem?_map] at hx'
    cases eq : kvs[i]? with
    | none => rw [eq] at hx'; cases hx'
    | some q =>
      rw [eq] at hx'
      cases hx'
      obtain ⟨v, ev⟩ := fst_get r.1 eq
      refine ⟨⟨ex.fz _ _ _ eH, (List.getElem?_eq_some_iff.mp ev).1⟩, fun u H2 ⟨e2, k', v', p, e3, e4, e5⟩ => ?_⟩
      subst e2 e4
      rw [ev] at e3
      cases e3
      exact ⟨.refl, hr, .tup (StT.of_heap hr e5) (rep_keys _)⟩
  · have hf' : (kvs.map fun kv => D.tup (kv.1.map dK)).length = i := hf
    rw [repF_length r, ← hf']; simp
/-- the keys of a locked dict -/
def iK (f : FE) : FI := fun ρ η => (f ρ η).bind fun d η => match d with
  | .obj k => (match η[k]? with
    | some (.lkK kvs) => .ok (.val (kvs.map fun kv => dK kv.1)) η
    | some (.lkT kvs) => .ok (.val (kvs.map fun kv => .tup (kv.1.map dK))) η
    | _ => .no)
  | _ => .no
theorem di_keys (h : DE X W e f) : DI X W tg e (iK f) := PI.imp (pi_keys h) fun σ H R ⟨w, ρ, η, rel, p⟩ => by
  refine (rdE_then rel p).imp fun v H1 ⟨w1, d, η1, e1, rel1, rv, p1⟩ => ?_
  cases d with
  | obj k =>
    cases rv with | obj ha => ?_
    dsimp only at p1
    cases eo : η1[k]? with
    | none => rw [eo] at p1; exact p1.elim
    | some ob =>
      rw [eo] at p1
      cases ob with
      | lkK kvs =>
        obtain ⟨od, xs, eH, r⟩ := rel1.heap.at_ _ _ _ ha eo
        exact ⟨_, od, rfl, .inl ⟨xs, eH, p1 _ w1 H1 .refl rel1.heap (itOk_keys eH r)⟩⟩
      | lkT kvs =>
        obtain ⟨od, xs, eH, r⟩ := rel1.heap.at_ _ _ _ ha eo
        exact ⟨_, od, rfl, .inr ⟨xs, eH, p1 _ w1 H1 .refl rel1.heap (itOk_keysT eH r)⟩⟩
      | _ => exact p1.elim
  | _ => exact p1.elim
/-! ### locking -/
def unlk (k : Nat) (o : O) : RS → RS
  | .nx ρ η => .nx ρ (η.set k o)
  | .ret d η => .ret d (η.set k o)
  | .brk ρ η => .brk ρ (η.set k o)
  | .cnt ρ η => .cnt ρ (η.set k o)
  | .exc x ρ η => .exc x ρ η
  | .no => .no
/-- the statement, while the dict that f tells is locked -/
def lockS (f : FE) (s : FS) : FS := fun ρ η => match f ρ η with
  | .ok (.obj k) _ => (match η[k]? with
    | some (.dK kvs) => unlk k (.dK kvs) (s ρ (η.set k (.lkK kvs)))
    | some (.dT kvs) => unlk k (.dT kvs) (s ρ (η.set k (.lkT kvs)))
    | _ => .no)
  | _ => .no
theorem io_at (hr : HeapRel K w H η) {o : O} (h : η[k]? = some o) : ∃ a, w.io[k]? = some a := by
  have hl : k < w.io.length := by rw [hr.len]; exact (List.getElem?_eq_some_iff.mp h).1
  exact ⟨w.io[k], List.getElem?_eq_getElem hl⟩
theorem Ext.unlock {u v : HO} (ha : w.io[k]? = some a) (hr : HeapRel K w H η) (hf : Nf H a) (e : Ext w (upd H a v) w' H') : Ext w H w' (upd H' a u) := by
  have am := List.mem_of_getElem? ha
  refine ⟨⟨e.pre, fun b o h n m z => ?_⟩, fun b hb => ?_, fun b od x h => ?_⟩
  · have hn : b ≠ a := ne_mem ha m
    obtain ⟨a1, a2, a3⟩ := e.keep b o (by rw [upd_ne hn]; exact h) n m z
    exact ⟨by rw [upd_ne hn]; exact a1, a2, a3⟩
  · have hn : b ≠ a := ne_mem ha (hr.bz b hb).1
    obtain ⟨a1, a2⟩ := e.bz b hb
    exact ⟨a1, by rw [upd_ne hn, a2, upd_ne hn]⟩
  · have hn : b ≠ a := fun q => by subst q; exact hf _ _ h
    rw [upd_ne hn]
    exact e.fz b od x (by rw [upd_ne hn]; exact h)
theorem lock_post {E : Ends} {u v : HO} {o : O} {r : RS} (hr : HeapRel K w H η) (ha : w.io[k]? = some a) (hf : Nf H a) {od : Obj} (ev : v = .frz od u) (ro : ∀ w' H', Ext w (upd H a v) w' H' → RepO K w' (upd H' a u) a o) (p : PostS K w H E W (unlk k o r)) :
    PostS K w (upd H a v) ⟨fun σ' H' => H' a = some v ∧ E.nx σ' (upd H' a u), fun x H' => H' a = some v ∧ E.rt x (upd H' a u), fun σ' H' => H' a = some v ∧ E.bk σ' (upd H' a u), fun σ' H' => H' a = some v ∧ E.ct σ' (upd H' a u)⟩ W r := by
  have st : ∀ {w' H'}, Ext w (upd H a v) w' H' → H' a = some v := fun {w' H'} e => by
    have h1 : (upd H a v) a = some (.frz od u) := by rw [← ev]; exact upd_same
    rw [ev]; exact e.fz a od u h1
  have rl : ∀ {w' H' σ' ρ' η'}, Ext w (upd H a v) w' H' → Rel K w' σ' H' ρ' η' → Rel K w' σ' (upd H' a u) ρ' (η'.set k o) := fun {w' H' σ' ρ' η'} e r' =>
    ⟨r'.env.mv (Mv.write (e.toMv.get ha)), r'.heap.write (e.toMv.get ha) (ro _ _ e)⟩
  cases r with
  | nx ρ' η' => exact fun σ' w' H' e r' => ⟨st e, p σ' w' _ (e.unlock ha hr hf) (rl e r')⟩
  | brk ρ' η' => exact fun σ' w' H' e r' => ⟨st e, p σ' w' _ (e.unlock ha hr hf) (rl e r')⟩
  | cnt ρ' η' => exact fun σ' w' H' e r' => ⟨st e, p σ' w' _ (e.unlock ha hr hf) (rl e r')⟩
  | ret d η' => exact fun x w' H' e r' rv => ⟨st e, p x w' _ (e.unlock ha hr hf) (r'.write (e.toMv.get ha) (ro _ _ e)) (rv.mv (Mv.write (e.toMv.get ha)))⟩
  | exc x ρ' η' => exact fun c d σ' w' H' e r' rx => p c d σ' w' H' ((Ext.write ha hf hr).trans e) r' rx
  | no => exact p
theorem ds_lock (h : DS X W st s) : DS X W st (lockS f s) := PS.imp (ps_lock h) fun E σ H ⟨w, ρ, η, rel, p⟩ => by
  unfold lockS at p
  split at p
  case h_2 => exact p.elim
  rename_i k η1 ef
  split at p
  · rename_i kvs eo
    obtain ⟨a, ha⟩ := io_at rel.heap eo
    obtain ⟨xs, eH, r⟩ := rel.heap.at_ _ _ _ ha eo
    refine ⟨a, .dK xs, eH, trivial, fun od => ?_⟩
    have hw : HeapRel X.K w (upd H a (.frz od (.dK xs))) (η.set k (.lkK kvs)) := rel.heap.write ha ⟨od, xs, upd_same, r.mv (Mv.write ha)⟩
    refine ⟨w, ρ, _, ⟨rel.env.mv (Mv.write ha), hw⟩, ?_⟩
    exact lock_post (o := .dK kvs) rel.heap ha (nf_dK eH) rfl (fun w' H' e => ⟨xs, upd_same, ((r.mv (Mv.write ha)).ext e).mv (Mv.write (e.toMv.get ha))⟩) p
  · rename_i kvs eo
    obtain ⟨a, ha⟩ := io_at rel.heap eo
    obtain ⟨xs, eH, r⟩ := rel.heap.at_ _ _ _ ha eo
    refine ⟨a, .dT xs, eH, trivial, fun od => ?_⟩
    have hw : HeapRel X.K w (upd H a (.frz od (.dT xs))) (η.set k (.lkT kvs)) := rel.heap.write ha ⟨od, xs, upd_same, r.mv (Mv.write ha)⟩
    refine ⟨w, ρ, _, ⟨rel.env.mv (Mv.write ha), hw⟩, ?_⟩
    exact lock_post (o := .dT kvs) rel.heap ha (nf_dT eH) rfl (fun w' H' e => ⟨xs, upd_same, ((r.mv (Mv.write ha)).ext e).mv (Mv.write (e.toMv.get ha))⟩) p
  · exact p.elim
/-- the expression, while the dict is locked -/
def unlkE (k : Nat) (o : O) : R D → R D
  | .ok d η => .ok d (η.set k o)
  | r => r
def lockE (f g : FE) : FE := fun ρ η => match f ρ η with
  | .ok (.obj k) _ => (match η[k]? with
    | some (.dK kvs) => unlkE k (.dK kvs) (g ρ (η.set k (.lkK kvs)))
    | some (.dT kvs) => unlkE k (.dT kvs) (g ρ (η.set k (.lkT kvs)))
    | _ => .no)
  | _ => .no
theorem lock_postE {Q : VK} {V : XK} {u v : HO} {o : O} {r : R D} (hr : HeapRel K w H η) (ha : w.io[k]? = some a) (hf : Nf H a) {od : Obj} (ev : v = .frz od u) (ro : ∀ w' H', Ext w (upd H a v) w' H' → RepO K w' (upd H' a u) a o) (p : Post K (RepV K) w H Q V (unlkE k o r)) :
    Post K (RepV K) w (upd H a v) (fun x H' => H' a = some v ∧ Q x (upd H' a u)) V r := by
  cases r with
  | ok d η' =>
    refine fun x w' H' e r' rv => ⟨?_, p x w' _ (e.unlock ha hr hf) (r'.write (e.toMv.get ha) (ro _ _ e)) (rv.mv (Mv.write (e.toMv.get ha)))⟩
    have h1 : (upd H a v) a = some (.frz od u) := by rw [← ev]; exact upd_same
    rw [ev]; exact e.fz a od u h1
  | exc x η' => exact fun c d w' H' e r' rx => p c d w' H' ((Ext.write ha hf hr).trans e) r' rx
  | no => exact p
theorem de_lock {g : FE} (h : DE X W e g) : DE X W e (lockE f g) := PE.imp (pe_lock h) fun σ H Q ⟨w, ρ, η, rel, p⟩ => by
  unfold lockE at p
  split at p
  case h_2 => exact p.elim
  rename_i k η1 ef
  split at p
  · rename_i kvs eo
    obtain ⟨a, ha⟩ := io_at rel.heap eo
    obtain ⟨xs, eH, r⟩ := rel.heap.at_ _ _ _ ha eo
    refine ⟨a, .dK xs, eH, trivial, fun od => ?_⟩
    have hw : HeapRel X.K w (upd H a (.frz od (.dK xs))) (η.set k (.lkK kvs)) := rel.heap.write ha ⟨od, xs, upd_same, r.mv (Mv.write ha)⟩
    refine ⟨w, ρ, _, ⟨rel.env.mv (Mv.write ha), hw⟩, ?_⟩
    exact lock_postE (o := .dK kvs) rel.heap ha (nf_dK eH) rfl (fun w' H' e => ⟨xs, upd_same, ((r.mv (Mv.write ha)).ext e).mv (Mv.write (e.toMv.get ha))⟩) p
  · rename_i kvs eo
    obtain ⟨a, ha⟩ := io_at rel.heap eo
    obtain ⟨xs, eH, r⟩ := rel.heap.at_ _ _ _ ha eo
    refine ⟨a, .dT xs, eH, trivial, fun od => ?_⟩
    have hw : HeapRel X.K w (upd H a (.frz od (.dT xs))) (η.set k (.lkT kvs)) := rel.heap.write ha ⟨od, xs, upd_same, r.mv (Mv.write ha)⟩
    refine ⟨w, ρ, _, ⟨rel.env.mv (Mv.write ha), hw⟩, ?_⟩
    exact lock_postE (o := .dT kvs) rel.heap ha (nf_dT eH) rfl (fun w' H' e => ⟨xs, upd_same, ((r.mv (Mv.write ha)).ext e).mv (Mv.write (e.toMv.get ha))⟩) p
  · exact p.elim
/-! ### wishes -/
theorem w_lockS {P : Po} {kvs : List (Key × D)} {η1 : Store} (ef : f ρ η = .ok (.obj k) η1) (eo : η[k]? = some (.dK kvs))
    (h : wpS (s ρ (η.set k (.lkK kvs))) ⟨fun ρ η => P.nx ρ (η.set k (.dK kvs)), fun d η => P.rt d (η.set k (.dK kvs)), fun ρ η => P.bk ρ (η.set k (.dK kvs)), fun ρ η => P.ct ρ (η.set k (.dK kvs)), P.ex⟩) : wpS (lockS f s ρ η) P := by
  unfold lockS
  rw [ef]
  dsimp only
  rw [eo]
  dsimp only
  cases r : s ρ (η.set k (.lkK kvs)) <;> (rw [r] at h; exact h)
theorem w_lockT {P : Po} {kvs : List (List Key × D)} {η1 : Store} (ef : f ρ η = .ok (.obj k) η1) (eo : η[k]? = some (.dT kvs))
    (h : wpS (s ρ (η.set k (.lkT kvs))) ⟨fun ρ η => P.nx ρ (η.set k (.dT kvs)), fun d η => P.rt d (η.set k (.dT kvs)), fun ρ η => P.bk ρ (η.set k (.dT kvs)), fun ρ η => P.ct ρ (η.set k (.dT kvs)), P.ex⟩) : wpS (lockS f s ρ η) P := by
  unfold lockS
  rw [ef]
  dsimp only
  rw [eo]
  dsimp only
  cases r : s ρ (η.set k (.lkT kvs)) <;> (rw [r] at h; exact h)
theorem w_iK {QS : Src → Store → Prop} {E : Ex → Store → Prop} {kvs : List (Key × D)} {η1 : Store} (ef : f ρ η = .ok (.obj k) η1) (eo : η1[k]? = some (.lkK kvs)) (h : QS (.val (kvs.map fun kv => dK kv.1)) η1) : wpR (iK f ρ η) QS E := by
  unfold iK
  rw [ef]
  show wpR (match η1[k]? with
    | some (.lkK kvs) => R.ok (.val (kvs.map fun kv => dK kv.1)) η1
    | some (.lkT kvs) => .ok (.val (kvs.map fun kv => .tup (kv.1.map dK))) η1
    | _ => .no) QS E
  rw [eo]
  exact h
theorem w_iKT {QS : Src → Store → Prop} {E : Ex → Store → Prop} {kvs : List (List Key × D)} {η1 : Store} (ef : f ρ η = .ok (.obj k) η1) (eo : η1[k]? = some (.lkT kvs)) (h : QS (.val (kvs.map fun kv => .tup (kv.1.map dK))) η1) : wpR (iK f ρ η) QS E := by
  unfold iK
  rw [ef]
  show wpR (match η1[k]? with
    | some (.lkK kvs) => R.ok (.val (kvs.map fun kv => dK kv.1)) η1
    | some (.lkT kvs) => .ok (.val (kvs.map fun kv => .tup (kv.1.map dK))) η1
    | _ => .no) QS E
  rw [eo]
  exact h
end
end Dn
/-! Dn part 40: the order of plain data: <, <=, >, >=, min, max, sorted. -/
namespace Dn
open PySem PySem.Spec PyProof.Rows L2
def encD (d : D) : PyData := (pd0 d).getD .none
def nonP : PyData → Bool
  | .none => true
  | _ => false
def ordQ (p q : PyData) : Bool := PySem.W.alike p q && decide (p.depth ≤ 60) && !nonP p
def ltQ (p q : PyData) : Bool := PySem.W.dataLt p q
mutual
theorem pd0_inj : ∀ {x y : D} {p : PyData}, pd0 x = some p → pd0 y = some p → x = y
  | .non, y, p, hx, hy => by
    cases hx
    cases y with
    | non => rfl
    | tup ys => have h : (pds0 ys).map PyData.tuple = _ := hy; cases e : pds0 ys <;> (rw [e] at h; cases h)
    | lst ys => have h : (pds0 ys).map PyData.list = _ := hy; cases e : pds0 ys <;> (rw [e] at h; cases h)
    | _ => cases hy
  | .bl b, y, p, hx, hy => by
    cases hx
    cases y with
    | bl c => cases hy; rfl
    | tup ys => have h : (pds0 ys).map PyData.tuple = _ := hy; cases e : pds0 ys <;> (rw [e] at h; cases h)
    | lst ys => have h : (pds0 ys).map PyData.list = _ := hy; cases e : pds0 ys <;> (rw [e] at h; cases h)
    | _ => cases hy
  | .int b, y, p, hx, hy => by
    cases hx
    cases y with
    | int c => cases hy; rfl
    | tup ys => have h : (pds0 ys).map PyData.tuple = _ := hy; cases e : pds0 ys <;> (rw [e] at h; cases h)
    | lst ys => have h : (pds0 ys).map PyData.list = _ := hy; cases e : pds0 ys <;> (rw [e] at h; cases h)
    | _ => cases hy
  | .str b, y, p, hx, hy => by
    cases hx
    cases y with
    | str c => cases hy; rfl
    | tup ys => have h : (pds0 ys).map PyData.tuple = _ := hy; cases e : pds0 ys <;> (rw [e] at h; cases h)
    | lst ys => have h : (pds0 ys).map PyData.list = _ := hy; cases e : pds0 ys <;> (rw [e] at h; cases h)
    | _ => cases hy
  | .tup xs, y, p, hx, hy => by
    have h : (pds0 xs).map PyData.tuple = some p := hx
    cases e : pds0 xs with
    | none => rw [e] at h; cases h
    | some ps =>
      rw [e] at h; cases h
      cases y with
      | tup ys =>
        have h : (pds0 ys).map PyData.tuple = _ := hy
        cases e2 : pds0 ys with
        | none => rw [e2] at h; cases h
        | some qs => rw [e2] at h; cases h; rw [pds0_inj e e2]
      | lst ys => have h : (pds0 ys).map PyData.list = _ := hy; cases e : pds0 ys <;> (rw [e] at h; cases h)
      | _ => cases hy
  | .lst xs, y, p, hx, hy => by
    have h : (pds0 xs).map PyData.list = some p := hx
    cases e : pds0 xs with
    | none => rw [e] at h; cases h
    | some ps =>
      rw [e] at h; cases h
      cases y with
      | lst ys =>
        have h : (pds0 ys).map PyData.list = _ := hy
        cases e2 : pds0 ys with
        | none => rw [e2] at h; cases h
        | some qs => rw [e2] at h; cases h; rw [pds0_inj e e2]
      | tup ys => have h : (pds0 ys).map PyData.tuple = _ := hy; cases e : pds0 ys <;> (rw [e] at h; cases h)
      | _ => cases hy
  | .scr _, _, _, hx, _ => by cases hx
  | .obj _, _, _, hx, _ => by cases hx
  | .gl _, _, _, hx, _ => by cases hx
  | .ty _, _, _, hx, _ => by cases hx
  | .adr _, _, _, hx, _ => by cases hx
theorem pds0_inj : ∀ {xs ys : List D} {ps : List PyData}, pds0 xs = some ps → pds0 ys = some ps → xs = ys
  | [], [], _, _, _ => rfl
  | [], y :: ys, _, hx, hy => by
    cases hx
    have h : (match pd0 y, pds0 ys with
      | some d, some ds => some (d :: ds)
      | _, _ => none) = some [] := hy
    cases e1 : pd0 y <;> cases e2 : pds0 ys <;> (rw [e1, e2] at h; cases h)
  | x :: xs, [], _, hx, hy => by
    cases hy
    have h : (match pd0 x, pds0 xs with
      | some d, some ds => some (d :: ds)
      | _, _ => none) = some [] := hx
    cases e1 : pd0 x <;> cases e2 : pds0 xs <;> (rw [e1, e2] at h; cases h)
  | x :: xs, y :: ys, ps, hx, hy => by
    have h : (match pd0 x, pds0 xs with
      | some d, some ds => some (d :: ds)
      | _, _ => none) = some ps := hx
    have k : (match pd0 y, pds0 ys with
      | some d, some ds => some (d :: ds)
      | _, _ => none) = some ps := hy
    cases e1 : pd0 x with
    | none => rw [e1] at h; cases h
    | some p =>
      cases e2 : pds0 xs with
      | none => rw [e1, e2] at h; cases h
      | some qs =>
        rw [e1, e2] at h; cases h
        cases f1 : pd0 y with
        | none => rw [f1] at k; cases k
        | some p' =>
          cases f2 : pds0 ys with
          | none => rw [f1, f2] at k; cases k
          | some qs' =>
            rw [f1, f2] at k; cases k
            rw [pd0_inj e1 f1, pds0_inj e2 f2]
end
theorem pds0_enc : ∀ {xs : List D} {ps : List PyData}, pds0 xs = some ps → ps = xs.map encD ∧ ∀ x ∈ xs, pd0 x = some (encD x)
  | [], _, h => by cases h; exact ⟨rfl, fun x hx => by cases hx⟩
  | x :: xs, ps, h => by
    have h' : (match pd0 x, pds0 xs with
      | some d, some ds => some (d :: ds)
      | _, _ => none) = some ps := h
    cases e1 : pd0 x with
    | none => rw [e1] at h'; cases h'
    | some p =>
      cases e2 : pds0 xs with
      | none => rw [e1, e2] at h'; cases h'
      | some qs =>
        rw [e1, e2] at h'; cases h'
        obtain ⟨a, b⟩ := pds0_enc e2
        have ex : encD x = p := by unfold encD; rw [e1]; rfl
        refine ⟨by rw [List.map_cons, ex, a], fun y hy => ?_⟩
        rcases List.mem_cons.mp hy with q | q
        · subst q; rw [e1, ex]
        · exact b y q
section
variable {X : Cx} {W : WX} {K : PySem.W.Frag} {w w1 w' : Wd} {σ : L2.St} {H H1 H' : Hp} {ρ : Env} {η η1 η' : Store} {a : Addr} {k : Nat} {e tg : Expr} {st : Stmt} {f : FE} {s : FS}
/-! ### comparisons -/
def rOrd (K : PySem.W.Frag) (g : PyData → PyData → Bool) : R2 := fun x y H Q => ∃ d e, Dp K H x d ∧ Dp K H y e ∧ ordQ d e = true ∧ Q (.bl (g d e)) H
theorem ordQ_of {p q : PyData} (h : ordQ p q = true) {u : Nat} (hu : u + 64 < cLine) : PySem.W.alike p q = true ∧ p ≠ .none ∧ u + min p.depth q.depth < cLine := by
  unfold ordQ at h
  obtain ⟨h1, h2⟩ := Bool.and_eq_true_iff.mp h
  obtain ⟨h3, h4⟩ := Bool.and_eq_true_iff.mp h1
  have h5 := of_decide_eq_true h4
  refine ⟨h3, fun z => (by rw [z] at h2; cases h2), ?_⟩
  have := Nat.min_le_left p.depth q.depth
  omega
theorem op_ltP (hu : X.A.units + 64 < cLine) : OpR X (compareOp .Lt) (rOrd X.K fun p q => ltQ p q) := by
  intro pins s σ H x y v u Q I rx ry ⟨d, e, hd, he, ok, q⟩
  obtain ⟨as, r1⟩ := Dp.reads I d x v hd rx
  obtain ⟨bs, r2⟩ := Dp.reads I e y u he ry
  obtain ⟨a1, a2, a3⟩ := ordQ_of ok hu
  exact PySem.W.lt_data r1 r2 a1 a2 a3 ⟨.bl _, H, I, rfl, q⟩
theorem op_gtP (hu : X.A.units + 64 < cLine) : OpR X (compareOp .Gt) (rOrd X.K fun p q => ltQ q p) := by
  intro pins s σ H x y v u Q I rx ry ⟨d, e, hd, he, ok, q⟩
  obtain ⟨as, r1⟩ := Dp.reads I d x v hd rx
  obtain ⟨bs, r2⟩ := Dp.reads I e y u he ry
  obtain ⟨a1, a2, a3⟩ := ordQ_of ok hu
  exact PySem.W.gt_data r1 r2 a1 a2 a3 ⟨.bl _, H, I, rfl, q⟩
theorem op_leP (hu : X.A.units + 64 < cLine) : OpR X (compareOp .LtE) (rOrd X.K fun p q => !ltQ q p) := by
  intro pins s σ H x y v u Q I rx ry ⟨d, e, hd, he, ok, q⟩
  obtain ⟨as, r1⟩ := Dp.reads I d x v hd rx
  obtain ⟨bs, r2⟩ := Dp.reads I e y u he ry
  obtain ⟨a1, a2, a3⟩ := ordQ_of ok hu
  exact PySem.W.le_data r1 r2 a1 a2 a3 ⟨.bl _, H, I, rfl, q⟩
theorem op_geP (hu : X.A.units + 64 < cLine) : OpR X (compareOp .GtE) (rOrd X.K fun p q => !ltQ p q) := by
  intro pins s σ H x y v u Q I rx ry ⟨d, e, hd, he, ok, q⟩
  obtain ⟨as, r1⟩ := Dp.reads I d x v hd rx
  obtain ⟨bs, r2⟩ := Dp.reads I e y u he ry
  obtain ⟨a1, a2, a3⟩ := ordQ_of ok hu
  exact PySem.W.ge_data r1 r2 a1 a2 a3 ⟨.bl _, H, I, rfl, q⟩
/-- whole numbers as they are; other plain data by their order -/
def cmpX (p : Int → Int → Bool) (g : PyData → PyData → Bool) : G2 := fun x y η => match x, y with
  | .int i, .int j => some (.bl (p i j), η)
  | x, y => match pd x η, pd y η with
    | some d, some e => if ordQ d e = true then some (.bl (g d e), η) else none
    | _, _ => none
theorem opD_cmpX {op : CmpOp} {p : Int → Int → Bool} {g : PyData → PyData → Bool} (ho : OpR X (compareOp op) (rI0 fun i j => .bl (p i j))) (hg : OpR X (compareOp op) (rOrd X.K g)) : OpR X (compareOp op) (rd2 X.K (cmpX p g)) :=
  op_of (OpR.or ho hg) fun hr r1 r2 h q => by
    unfold cmpX at h
    split at h
    · cases h; cases r1; cases r2; exact .inl ⟨_, _, rfl, rfl, val_of q hr (.bl _)⟩
    · split at h
      · rename_i e1 e2
        split at h
        · rename_i ok; cases h; exact .inr ⟨_, _, pd_ok hr r1 e1, pd_ok hr r2 e2, ok, val_of q hr (.bl _)⟩
        · cases h
      · cases h
abbrev ltX : G2 := cmpX (fun i j => decide (i < j)) fun p q => ltQ p q
abbrev leX : G2 := cmpX (fun i j => decide (i ≤ j)) fun p q => !ltQ q p
abbrev gtX : G2 := cmpX (fun i j => decide (j < i)) fun p q => ltQ q p
abbrev geX : G2 := cmpX (fun i j => decide (j ≤ i)) fun p q => !ltQ p q
theorem opX_lt (hu : X.A.units + 64 < cLine) : OpR X (compareOp .Lt) (rd2 X.K ltX) := opD_cmpX op_lt (op_ltP hu)
theorem opX_le (hu : X.A.units + 64 < cLine) : OpR X (compareOp .LtE) (rd2 X.K leX) := opD_cmpX op_le (op_leP hu)
theorem opX_gt (hu : X.A.units + 64 < cLine) : OpR X (compareOp .Gt) (rd2 X.K gtX) := opD_cmpX op_gt (op_gtP hu)
theorem opX_ge (hu : X.A.units + 64 < cLine) : OpR X (compareOp .GtE) (rd2 X.K geX) := opD_cmpX op_ge (op_geP hu)
@[simp] theorem cmpX_int {p : Int → Int → Bool} {g : PyData → PyData → Bool} {i j : Int} : cmpX p g (.int i) (.int j) η = some (.bl (p i j), η) := rfl
/-! ### the least, the greatest -/
def ordAll (ps : List PyData) : Bool := ps.all (fun p => ps.all fun q => PySem.W.alike p q) && ps.all (fun p => !nonP p) && decide (PyData.depthAll ps ≤ 60)
theorem ordAll_of {ps : List PyData} (h : ordAll ps = true) : PySem.W.AlikeAll ps ∧ PyData.depthAll ps ≤ 60 := by
  unfold ordAll at h
  obtain ⟨h1, h2⟩ := Bool.and_eq_true_iff.mp h
  obtain ⟨h3, h4⟩ := Bool.and_eq_true_iff.mp h1
  refine ⟨⟨fun x hx y hy => ?_, fun x hx z => ?_⟩, of_decide_eq_true h2⟩
  · exact List.all_eq_true.mp (List.all_eq_true.mp h3 x hx) y hy
  · have := List.all_eq_true.mp h4 x hx
    rw [z] at this; cases this
def minBy (x : D) (xs : List D) : D := xs.foldl (fun a y => if PySem.W.dataLt (encD y) (encD a) = true then y else a) x
def maxBy (x : D) (xs : List D) : D := xs.foldl (fun a y => if PySem.W.dataLt (encD a) (encD y) = true then y else a) x
theorem minBy_enc : ∀ (xs : List D) (x : D), encD (minBy x xs) = PySem.W.minD (encD x) (xs.map encD) ∧ minBy x xs ∈ x :: xs
  | [], x => ⟨rfl, List.mem_cons_self⟩
  | y :: ys, x => by
    obtain ⟨h1, h2⟩ := minBy_enc ys (if PySem.W.dataLt (encD y) (encD x) = true then y else x)
    have e1 : minBy x (y :: ys) = minBy (if PySem.W.dataLt (encD y) (encD x) = true then y else x) ys := rfl
    have e2 : PySem.W.minD (encD x) ((y :: ys).map encD) = PySem.W.minD (if PySem.W.dataLt (encD y) (encD x) = true then encD y else encD x) (ys.map encD) := rfl
    rw [e1, e2, h1]
    refine ⟨by split <;> rfl, ?_⟩
    rcases List.mem_cons.mp h2 with q | q
    · rw [q]; split
      · exact List.mem_cons_of_mem _ List.mem_cons_self
      · exact List.mem_cons_self
    · exact List.mem_cons_of_mem _ (List.mem_cons_of_mem _ q)
theorem maxBy_enc : ∀ (xs : List D) (x : D), encD (maxBy x xs) = PySem.W.maxD (encD x) (xs.map encD) ∧ maxBy x xs ∈ x :: xs
  | [], x => ⟨rfl, List.mem_cons_self⟩
  | y :: ys, x => by
    obtain ⟨h1, h2⟩ := maxBy_enc ys (if PySem.W.dataLt (encD x) (encD y) = true then y else x)
    have e1 : maxBy x (y :: ys) = maxBy (if PySem.W.dataLt (encD x) (encD y) = true then y else x) ys := rfl
    have e2 : PySem.W.maxD (encD x) ((y :: ys).map encD) = PySem.W.maxD (if PySem.W.dataLt (encD x) (encD y) = true then encD y else encD x) (ys.map encD) := rfl
    rw [e1, e2, h1]
    refine ⟨by split <;> rfl, ?_⟩
    rcases List.mem_cons.mp h2 with q | q
    · rw [q]; split
      · exact List.mem_cons_of_mem _ List.mem_cons_self
      · exact List.mem_cons_self
    · exact List.mem_cons_of_mem _ (List.mem_cons_of_mem _ q)
/-- the items of a list or tuple, and their kind -/
def sqItems : D → Store → Option (List D)
  | .tup xs, _ => some xs
  | d, η => seqL d η
def bestX (g : D → List D → D) : GL := fun ds η => match ds with
  | [d] => (match sqItems d η with
    | some (x :: xs) => (match pds0 (x :: xs) with
      | some ps => if ordAll ps = true then some (g x xs, η) else none
      | none => none)
    | _ => none)
  | _ => none
def minX : GL := bestX minBy
def maxX : GL := bestX maxBy
theorem readsAll_of {pins : List (Addr × Obj)} {s : Shared} (I : Inv X pins σ H s) : ∀ {vs : List V} {us : List Value} {ps : List PyData}, DpAll X.K H vs ps → Vals vs us → ∃ as, ReadsAll s.heap us ps as
  | _, _, _, .nil, r => by cases r; exact ⟨_, .nil⟩
  | _, _, _, .cons d ds, r => by
    cases r with | cons r1 r2 => ?_
    obtain ⟨as, h1⟩ := Dp.reads I _ _ _ d r1
    obtain ⟨bs, h2⟩ := readsAll_of I ds r2
    exact ⟨_, .cons h1 h2⟩
/-- the item that reads so -/
theorem item_of {pins : List (Addr × Obj)} {s : Shared} (I : Inv X pins σ H s) {ds : List D} {vs : List V} {us : List Value} {ps : List PyData} (r : RepVs X.K w H vs ds) (rv : Vals vs us) (ep : pds0 ds = some ps) {h' : Heap}
    (kh : ∀ b o, s.heap.get? b = some o → h'.get? b = some o) {i : Nat} {v : Value} {bs : List Addr} {d : D} (hi : us[i]? = some v) (hm : d ∈ ds) (hd : Reads h' v (encD d) bs) : ∃ x, RelV x v ∧ RepV X.K w H x d := by
  have hlt : i < us.length := (List.getElem?_eq_some_iff.mp hi).1
  have hl : i < vs.length := by rw [rv.length]; exact hlt
  obtain ⟨x, hx⟩ : ∃ x, vs[i]? = some x := ⟨vs[i], List.getElem?_eq_getElem hl⟩
  obtain ⟨d', hd', rd⟩ := r.getV hx
  obtain ⟨u, hu, ru⟩ := rv.get hx
  rw [hi] at hu; cases hu
  obtain ⟨_, hall⟩ := pds0_enc ep
  have e1 := hall d hm
  have e2 := hall d' (List.mem_of_getElem? hd')
  obtain ⟨as, hr⟩ := Dp.reads I _ _ _ (pd0_ok rd e2) ru
  have e3 := (Reads.unique (PyProof.Rows.Reads.keeps kh hr) _ _ hd).1
  rw [e3] at e2
  rw [pd0_inj e1 e2]
  exact ⟨x, ru, rd⟩
theorem callX_min (hc : X.calm = true) (hu : X.A.units + 65 < cLine) : CallR X (.builtin "min") (rdL X.K minX) := by
  intro pins s σ H xs us Q I rx ⟨w, η, ds, hr, r1, p⟩
  unfold minX bestX at p
  split at p
  case h_2 => exact p.elim
  rename_i d
  split at p
  case h_2 => exact p.elim
  rename_i x0 xs0 es
  split at p
  case h_2 => exact p.elim
  rename_i ps ep
  split at p
  case isFalse => exact p.elim
  rename_i ok
  obtain ⟨al, dp⟩ := ordAll_of ok
  obtain ⟨e1, e2⟩ := pds0_enc ep
  subst e1
  cases r1 with | cons rv rr => ?_
  cases rr
  obtain ⟨b1, b2⟩ := minBy_enc xs0 x0
  cases d with
  | tup ys =>
    cases es
    cases rv with | tup hs q => ?_
    obtain ⟨its, rvs, hl, _⟩ := I.tuple hs.sq
    rw [Vals.ref1 rx]
    obtain ⟨as, ra⟩ := readsAll_of I (pds0_ok q ep) rvs
    refine PySem.W.min_tuple_data (x := encD x0) (xs := xs0.map encD) (I.ok.hd hc) hl (by simpa using ra) al (by show X.A.units + 1 + _ < _; have : PyData.depthAll (encD x0 :: xs0.map encD) ≤ 60 := dp; omega) fun i v h' tk bs hi hrd hk => ?_
    rw [← b1] at hrd
    obtain ⟨x, ru, rd⟩ := item_of I q rvs ep hk (by simpa using hi) b2 hrd
    exact ⟨x, H, I.kept (t' := tk) hk, ru, p x w H .refl hr rd⟩
  | _ =>
    obtain ⟨a, ys, ev, hs, q⟩ := seqL_ok hr rv es
    subst ev
    obtain ⟨its, rvs, hl, _⟩ := I.list hs
    rw [Vals.ref1 rx]
    obtain ⟨as, ra⟩ := readsAll_of I (pds0_ok q ep) rvs
    refine PySem.W.min_list_data (x := encD x0) (xs := xs0.map encD) (I.ok.hd hc) hl.isList (by simpa using ra) al (by show X.A.units + 1 + _ < _; have : PyData.depthAll (encD x0 :: xs0.map encD) ≤ 60 := dp; omega) fun i v h' tk bs hi hrd hk => ?_
    rw [← b1] at hrd
    obtain ⟨x, ru, rd⟩ := item_of I q rvs ep hk (by simpa using hi) b2 hrd
    exact ⟨x, H, I.kept (t' := tk) hk, ru, p x w H .refl hr rd⟩
theorem callX_max (hc : X.calm = true) (hu : X.A.units + 65 < cLine) : CallR X (.builtin "max") (rdL X.K maxX) := by
  intro pins s σ H xs us Q I rx ⟨w, η, ds, hr, r1, p⟩
  unfold maxX bestX at p
  split at p
  case h_2 => exact p.elim
  rename_i d
  split at p
  case h_2 => exact p.elim
  rename_i x0 xs0 es
  split at p
  case h_2 => exact p.elim
  rename_i ps ep
  split at p
  case isFalse => exact p.elim
  rename_i ok
  obtain ⟨al, dp⟩ := ordAll_of ok
  obtain ⟨e1, e2⟩ := pds0_enc ep
  subst e1
  cases r1 with | cons rv rr => ?_
  cases rr
  obtain ⟨b1, b2⟩ := maxBy_enc xs0 x0
  cases d with
  | tup ys =>
    cases es
    cases rv with | tup hs q => ?_
    obtain ⟨its, rvs, hl, _⟩ := I.tuple hs.sq
    rw [Vals.ref1 rx]
    obtain ⟨as, ra⟩ := readsAll_of I (pds0_ok q ep) rvs
    refine PySem.W.max_tuple_data (x := encD x0) (xs := xs0.map encD) (I.ok.hd hc) hl (by simpa using ra) al (by show X.A.units + 1 + _ < _; have : PyData.depthAll (encD x0 :: xs0.map encD) ≤ 60 := dp; omega) fun i v h' tk bs hi hrd hk => ?_
    rw [← b1] at hrd
    obtain ⟨x, ru, rd⟩ := item_of I q rvs ep hk (by simpa using hi) b2 hrd
    exact ⟨x, H, I.kept (t' := tk) hk, ru, p x w H .refl hr rd⟩
  | _ =>
    obtain ⟨a, ys, ev, hs, q⟩ := seqL_ok hr rv es
    subst ev
    obtain ⟨its, rvs, hl, _⟩ := I.list hs
    rw [Vals.ref1 rx]
    obtain ⟨as, ra⟩ := readsAll_of I (pds0_ok q ep) rvs
    refine PySem.W.max_list_data (x := encD x0) (xs := xs0.map encD) (I.ok.hd hc) hl.isList (by simpa using ra) al (by show X.A.units + 1 + _ < _; have : PyData.depthAll (encD x0 :: xs0.map encD) ≤ 60 := dp; omega) fun i v h' tk bs hi hrd hk => ?_
    rw [← b1] at hrd
    obtain ⟨x, ru, rd⟩ := item_of I q rvs ep hk (by simpa using hi) b2 hrd
    exact ⟨x, H, I.kept (t' := tk) hk, ru, p x w H .refl hr rd⟩
end
end Dn
/-! Dn part 41: dicts with tuples for keys: sorted, min, len, dict, update. -/
namespace Dn
open PySem PySem.Spec PyProof.Rows L2 PySem.W
/-- the keys as data -/
def keysT (kvs : List (List Key × D)) : List D := kvs.map fun kv => .tup (kv.1.map dK)
section
variable {X : Cx} {W : WX} {K : PySem.W.Frag} {w w1 w' : Wd} {σ : L2.St} {H H1 H' : Hp} {ρ : Env} {η η1 η' : Store} {a : Addr}
theorem rep_keysT (hr : HeapRel K w H η) : ∀ {xs : List (List Key × V)} {kvs : List (List Key × D)} {bs : List Addr}, IsKeys H xs bs → xs.map (·.1) = kvs.map (·.1) → RepVs K w H (bs.map V.ref) (keysT kvs)
  | _, [], _, .nil, _ => .nil
  | _, kv :: kvs, _, .nil, e => by cases e
  | _, [], _, .cons _ _, e => by cases e
  | _, kv :: kvs, _, .cons h t, e => by
    rw [List.map_cons, List.map_cons] at e
    obtain ⟨e1, e2⟩ := List.cons.inj e
    rw [e1] at h
    exact .cons (.tup (StT.of_heap hr h) (rep_keys _)) (rep_keysT hr t e2)
theorem dT_raw {pins : List (Addr × Obj)} {s : Shared} (I : Inv X pins σ H s) {xs : List (List Key × V)} (e : H a = some (.dT xs)) :
    ∃ (bs : List Addr) (o : Obj) (es : Array DictEntry) (ep : Nat), IsKeys H xs bs ∧ (a == sysModules) = false ∧ s.heap.get? a = some o ∧ o.ExactDict ∧ o.data = .dict es ep ∧ es.size = bs.length ∧ bs.length ≤ sizeLine ∧
      ∀ (i : Nat) (v : Value), (∃ en : DictEntry, es[i]? = some en ∧ v = en.key) → (bs.map Value.ref)[i]? = some v := by
  obtain ⟨z, hs, ks, pr, o, es, ep, ho, hx, hdt, he, hn⟩ := (show ObjOk X.prog X.w H s.heap a (.dT xs) from I.hok a _ e)
  have l1 : es.size = ks.length := size_of_entries he
  have l2 : xs.length = ks.length := Paired.length pr
  refine ⟨ks.map fun x => x.2.1, o, es, ep, isKeys_of pr, hs, ho, hx, hdt, by rw [List.length_map]; exact l1, by rw [List.length_map]; omega, fun i v ⟨en, hen, hv⟩ => ?_⟩
  have qe := entry_at he i
  rw [hen] at qe
  cases hb : ks[i]? with
  | none => rw [hb] at qe; exact nomatch (show some en = none from qe)
  | some b =>
    rw [hb] at qe
    have e2 : en = entryOfKey (tupleKind (mixKind X.prog X.w)) b := Option.some.inj qe
    rw [List.getElem?_map, List.getElem?_map, hb, hv, e2]
    rfl
open PySem.W in
theorem each_of {R : Value → D → Prop} (hR : ∀ x v d, RelV x v → RepV K w H x d → R v d) : ∀ {vs : List V} {us : List Value} {ds : List D}, Vals vs us → RepVs K w H vs ds → EachIs R us ds
  | _, _, _, .nil, r => by cases r; exact .nil
  | _, _, _, .cons h t, r => by
    cases r with | cons r1 r2 => ?_
    exact .cons (hR _ _ _ h r1) (each_of hR t r2)
open PySem.W in
theorem of_each : ∀ {us : List Value} {ds : List D}, EachIs (fun v d => ∃ x, RelV x v ∧ RepV K w H x d) us ds → ∃ vs, Vals vs us ∧ RepVs K w H vs ds
  | _, _, .nil => ⟨[], .nil, .nil⟩
  | _, _, .cons ⟨x, h1, h2⟩ t => by
    obtain ⟨vs, a, b⟩ := of_each t
    exact ⟨x :: vs, .cons h1 a, .cons h2 b⟩
/-! ### sorted -/
def isTC : PyData → Bool
  | .tuple (_ :: _) => true
  | _ => false
def isNT : PyData → Bool
  | .tuple _ => false
  | _ => true
def sortOk (ps : List PyData) : Bool := ordAll ps && (ps.all isTC || ps.all isNT)
def leD (x y : D) : Bool := !PySem.W.dataLt (encD y) (encD x)
def srtD (ds : List D) : List D := ds.mergeSort leD
theorem srtD_eq (ds : List D) : ds.mergeSort (PySem.W.dataLe false encD) = srtD ds := by
  rw [PySem.W.dataLe_eq]; rfl
theorem sortOk_of {ps : List PyData} (h : sortOk ps = true) : PySem.W.AllAlike ps ∧ PySem.W.Sortable ps ∧ ∀ p ∈ ps, p.depth ≤ 60 := by
  unfold sortOk at h
  obtain ⟨h1, h2⟩ := Bool.and_eq_true_iff.mp h
  obtain ⟨a, b⟩ := ordAll_of h1
  refine ⟨fun x hx y hy => a.1 x hx y hy, ?_, fun p hp => ?_⟩
  · rcases Bool.or_eq_true_iff.mp h2 with q | q
    · refine .inl fun d hd => ?_
      have := List.all_eq_true.mp q d hd
      cases d with
      | tuple zs => cases zs with
        | nil => cases this
        | cons z zs => exact ⟨z, zs, rfl⟩
      | _ => cases this
    · refine .inr fun d hd => ⟨a.2 d hd, fun zs e => ?_⟩
      have := List.all_eq_true.mp q d hd
      rw [e] at this; cases this
  · have : ∀ {l : List PyData} {p : PyData}, p ∈ l → p.depth ≤ PyData.depthAll l := by
      intro l
      induction l with
      | nil => intro p hp; cases hp
      | cons x l ih =>
        intro p hp
        show p.depth ≤ max x.depth (PyData.depthAll l)
        rcases List.mem_cons.mp hp with rfl | hp
        · exact Nat.le_max_left _ _
        · exact Nat.le_trans (ih hp) (Nat.le_max_right _ _)
    exact Nat.le_trans (this hp) b
def sortX : GL := fun ds η => match ds with
  | [.obj k] => (match η[k]? with
    | some (.dT kvs) => (match pds0 (keysT kvs) with
      | some ps => if sortOk ps = true then some (.lst (srtD (keysT kvs)), η) else none
      | none => none)
    | _ => sortedD [.obj k] η)
  | _ => sortedD ds η
theorem callX_sorted (hc : X.calm = true) (hu : X.A.units + 64 < cLine) : CallR X (.builtin "sorted") (rdL X.K sortX) := by
  intro pins s σ H xs us Q I rx ⟨w, η, ds, hr, r1, p⟩
  unfold sortX at p
  split at p
  case h_2 => exact callD_sorted hc pins s σ H xs us Q I rx ⟨w, η, _, hr, r1, p⟩
  rename_i k
  split at p
  case h_2 => exact callD_sorted hc pins s σ H xs us Q I rx ⟨w, η, _, hr, r1, p⟩
  rename_i kvs eo
  split at p
  case h_2 => exact p.elim
  rename_i ps ep
  split at p
  case isFalse => exact p.elim
  rename_i ok
  obtain ⟨al, so, dp⟩ := sortOk_of ok
  obtain ⟨e1, e2⟩ := pds0_enc ep
  subst e1
  cases r1 with | cons rv rr => ?_
  cases rr
  cases rv with | obj ha => ?_
  obtain ⟨ys, eH, f⟩ := hr.at_ _ _ _ ha eo
  rw [Vals.ref1 rx]
  obtain ⟨bs, o, es, epp, hk, hs, ho, hx, hdt, hsz, hln, hent⟩ := dT_raw I eH
  have rk := rep_keysT hr hk f.1
  have rvs := vals_refs bs
  have hlk : (keysT kvs).length = bs.length := by rw [← rk.length, List.length_map]
  refine Calls.call_function_entry PyProof.Rows.kind_sorted PyProof.Rows.plain_sorted PyProof.Rows.entry_sorted (PyProof.Rows.args_sorted1 _) ?_
  unfold Builtin.«sorted»
  refine wpAny_bind (m := checkCount "sorted" 1 1 _) (wpAny_pure ?_)
  refine wpAny_bind (PySem.W.kdu_collect (A := X.A.in1) (kdl_raw hs hx hdt) (I.ok.hd hc) ho (by omega) fun h' tk acc kp it => ?_)
  have ea : acc.toList = bs.map Value.ref := by
    have hl : acc.toList.length = bs.length := by rw [Array.length_toList, it.1]; exact hsz
    refine List.ext_getElem? fun j => ?_
    cases hj : acc.toList[j]? with
    | none =>
      have h1 := List.getElem?_eq_none_iff.mp hj
      rw [List.getElem?_eq_none (by rw [List.length_map]; omega)]
    | some v => exact (hent j v (it.2 j v (by rw [← Array.getElem?_toList]; exact hj))).symm
  have I1 : Inv X pins σ H { s with heap := h', toks := tk } := I.kept kp
  rw [ea]
  refine wpAny_bind (wpAny_newList ?_ (by rw [List.length_map]; exact hln))
  have hoL : (h'.push (seqObj "list" (bs.map Value.ref).toArray 0)).get? h'.objs.size = some (seqObj "list" (bs.map Value.ref).toArray 0) := Heap.get?_push_size _ rfl
  show wpAny _ _ _ _ _ { s with heap := h'.push (seqObj "list" (bs.map Value.ref).toArray 0), toks := tk }
  have ee := each_of (K := X.K) (w := w) (H := H) (R := fun v d => ∃ x, RelV x v ∧ RepV X.K w H x d) (fun x v d h1 h2 => ⟨x, h1, h2⟩) rvs rk
  have hold : ∀ b ob, h'.get? b = some ob → (sortingHeap (h'.push (seqObj "list" (bs.map Value.ref).toArray 0)) h'.objs.size (bs.map Value.ref)).get? b = some ob := fun b ob e =>
    sortingHeap_old (Nat.ne_of_lt (Heap.lt_size e)) (Heap.get?_push_of_some _ e)
  have er : PySem.W.EachIs (fun v d => ∃ as, Reads (sortingHeap (h'.push (seqObj "list" (bs.map Value.ref).toArray 0)) h'.objs.size (bs.map Value.ref)) v (encD d) as) (bs.map Value.ref) (keysT kvs) := by
    have h0 := each_of (K := X.K) (w := w) (H := H) (R := fun v d => pd0 d = some (encD d) → ∃ as, Reads (sortingHeap (h'.push (seqObj "list" (bs.map Value.ref).toArray 0)) h'.objs.size (bs.map Value.ref)) v (encD d) as) (fun x v d h1 h2 e => by
      obtain ⟨as, q⟩ := Dp.reads I1 _ _ _ (pd0_ok h2 e) h1
      exact ⟨as, PyProof.Rows.Reads.keeps hold q⟩) rvs rk
    have h1 := PySem.W.each_mem h0
    exact h1.mono fun v d ⟨a, hd⟩ => a (e2 d hd)
  refine wpAny_bind (wpAny_holding (wpAny_call_entry PyProof.Rows.slot_list_sort ⟨_, hoL, rfl⟩ PyProof.Rows.entry_list_sort
    (PySem.W.list_sort_vals (s := { s with heap := h'.push (seqObj "list" (bs.map Value.ref).toArray 0), toks := tk }) hoL
      (PySem.W.SortsAt.data (s := { s with heap := sortingHeap (h'.push (seqObj "list" (bs.map Value.ref).toArray 0)) h'.objs.size (bs.map Value.ref), toks := tk })
        (PySem.W.each_map (R := fun v d => ∃ as, Reads (sortingHeap (h'.push (seqObj "list" (bs.map Value.ref).toArray 0)) h'.objs.size (bs.map Value.ref)) v d as) encD er) al so
        (fun d hd => by have := dp d hd; show X.A.units + 1 + 1 + _ < _; omega)) (by rw [List.length_map]; exact hln) ⟨.none, rfl, ?_⟩) (PyProof.Rows.args_list_sort _)))
  have eo2 := PySem.W.sortVals_data false ee er al
  rw [srtD_eq] at eo2
  obtain ⟨zs, rz, rq⟩ := of_each eo2
  generalize hout : PySem.W.sortVals (PySem.W.dataKind (sortingHeap (h'.push (seqObj "list" (bs.map Value.ref).toArray 0)) h'.objs.size (bs.map Value.ref)) ((keysT kvs).map encD)) false (bs.map Value.ref) (bs.map Value.ref) = out at *
  obtain ⟨e', he'⟩ := PyProof.Rows.sortedHeap_at (vs := bs.map Value.ref) (out := out.toArray) hoL
  have hzl : zs.length ≤ sizeLine := by
    rw [rq.length, srtD, List.length_mergeSort, hlk]; exact hln
  refine wpAny_pure ⟨_, rfl, .ref h'.objs.size, upd H h'.objs.size (.lst zs), I1.laid (t' := tk) (fun b u e => ?_) (Nat.le_refl _) ⟨hzl, out, e', rz, he'⟩, rfl, lst_of p hr rq (I1.hok.fresh (Nat.le_refl _))⟩
  have hb : b < h'.objs.size := Heap.lt_size e
  rw [PyProof.Rows.sortedHeap_old (Nat.ne_of_lt hb) (by rw [size_push']; exact Nat.lt_succ_of_lt hb)]
  exact Heap.get?_push_of_some _ e
/-! ### min of a dict's keys -/
def minT : GL := fun ds η => match ds with
  | [.obj k] => (match η[k]? with
    | some (.dT kvs) => (match keysT kvs with
      | x :: xs => (match pds0 (x :: xs) with
        | some ps => if ordAll ps = true then some (minBy x xs, η) else none
        | none => none)
      | [] => none)
    | _ => minX [.obj k] η)
  | _ => minX ds η
theorem vals_len_refs (bs : List Addr) : (bs.map Value.ref).length = bs.length := List.length_map _
theorem callT_min (hc : X.calm = true) (hu : X.A.units + 65 < cLine) : CallR X (.builtin "min") (rdL X.K minT) := by
  intro pins s σ H xs us Q I rx ⟨w, η, ds, hr, r1, p⟩
  unfold minT at p
  split at p
  case h_2 => exact callX_min hc hu pins s σ H xs us Q I rx ⟨w, η, _, hr, r1, p⟩
  rename_i k
  split at p
  case h_2 => exact callX_min hc hu pins s σ H xs us Q I rx ⟨w, η, _, hr, r1, p⟩
  rename_i kvs eo
  split at p
  case h_2 => exact p.elim
  rename_i x0 xs0 es0
  split at p
  case h_2 => exact p.elim
  rename_i ps ep
  split at p
  case isFalse => exact p.elim
  rename_i ok
  obtain ⟨al, dp⟩ := ordAll_of ok
  obtain ⟨e1, e2⟩ := pds0_enc ep
  subst e1
  obtain ⟨b1, b2⟩ := minBy_enc xs0 x0
  cases r1 with | cons rv rr => ?_
  cases rr
  cases rv with | obj ha => ?_
  obtain ⟨ys, eH, f⟩ := hr.at_ _ _ _ ha eo
  rw [Vals.ref1 rx]
  obtain ⟨bs, o, es, epp, hk, hs, ho, hx, hdt, hsz, hln, hent⟩ := dT_raw I eH
  have rk := rep_keysT hr hk f.1
  rw [es0] at rk
  have rvs := vals_refs bs
  obtain ⟨as, ra⟩ := readsAll_of I (pds0_ok rk ep) rvs
  have hlk : bs.length = xs0.length + 1 := by have := rk.length; rw [List.length_map] at this; exact this
  refine call_min_walkH (iter_keys hs ho hx hdt ?_)
  have hlt : _ < s.heap.objs.size := Heap.lt_size ho
  refine ⟨_, _, _, _, _, _, _, s.heap, _, rfl, ((walks_raw (A := X.A.in1) (I.ok.hd hc) s.heap.objs.size _ (Nat.ne_of_lt hlt) hdt).mono_item (P' := fun i v => ((bs.map Value.ref).toArray)[i]? = some v) fun i v _ h => by
    rw [← Array.getElem?_toList]; exact hent i v h).toS, ⟨⟨_, Heap.get?_push_size _ rfl, rfl, rfl⟩, Heap.get?_push_of_some _ ho⟩, fun b hb => ?_, by omega, fun b u e hb => ?_, fun b u e => Heap.get?_push_of_some _ e,
    cmpIn_lt (A := X.A.in1) (vs := (bs.map Value.ref).toArray) (by simpa using ra) al (by show X.A.units + 1 + _ < _; have : PyData.depthAll (encD x0 :: xs0.map encD) ≤ 60 := dp; omega), fun v s' hP m => ?_⟩
  · show b < (s.heap.push _).objs.size
    rw [Heap.size_push]
    rcases List.mem_cons.mp hb with e | hb
    · rw [e]; exact Nat.lt_succ_self _
    · rw [List.mem_singleton.mp hb]; exact Nat.lt_succ_of_lt hlt
  · exact absurd (Heap.lt_size e) ((List.mem_singleton.mp hb) ▸ Nat.lt_irrefl _)
  · obtain ⟨h', tk, rfl, hk'⟩ := moved_old rfl rfl m
    have ra' : ReadsAll s.heap ((bs.map Value.ref).toArray).toList (encD x0 :: xs0.map encD) as := by simpa using ra
    have hPl : (bs.map Value.ref)[argBest (fun i j => PySem.W.dataLt ((encD x0 :: xs0.map encD).getD i .none) ((encD x0 :: xs0.map encD).getD j .none)) (es.size - 1)]? = some v := by
      have h0 := hP
      rw [← Array.getElem?_toList] at h0
      exact h0
    obtain ⟨cs, r, _, _, _⟩ := readsAll_at ra _ v hPl
    have e2' := (argBest_fold PySem.W.dataLt PyData.none (encD x0) (xs0.map encD) (xs0.map encD).length (Nat.le_refl _)).2
    rw [List.take_length] at e2'
    have e3 : es.size - 1 = (xs0.map encD).length := by rw [List.length_map]; omega
    rw [e3] at r hPl
    have hrd : Reads h' v (encD (minBy x0 xs0)) cs := by
      rw [b1]
      refine PyProof.Rows.Reads.keeps hk' ?_
      unfold PySem.W.minD
      rw [← e2']
      exact r
    obtain ⟨x, ru, rd⟩ := item_of I rk rvs ep hk' hPl b2 hrd
    exact ⟨x, H, I.kept (t' := tk) hk', ru, p x w H .refl hr rd⟩
/-! ### len -/
def lenX : GL := fun ds η => match ds with
  | [.obj k] => (match η[k]? with
    | some (.dT kvs) => some (.int ((kvs.length : Nat) : Int), η)
    | _ => lenD [.obj k] η)
  | _ => lenD ds η
theorem callX_len : CallR X (.builtin "len") (rdL X.K lenX) := by
  intro pins s σ H xs us Q I rx ⟨w, η, ds, hr, r1, p⟩
  unfold lenX at p
  split at p
  case h_2 => exact callD_len pins s σ H xs us Q I rx ⟨w, η, _, hr, r1, p⟩
  rename_i k
  split at p
  case h_2 => exact callD_len pins s σ H xs us Q I rx ⟨w, η, _, hr, r1, p⟩
  rename_i kvs eo
  cases r1 with | cons rv rr => ?_
  cases rr
  cases rv with | obj ha => ?_
  obtain ⟨ys, eH, f⟩ := hr.at_ _ _ _ ha eo
  refine call_len_dT pins s σ H _ us Q I rx ⟨_, ys, rfl, eH, ?_⟩
  rw [repF_length f]
  exact p _ w H .refl hr (.int _)
end
end Dn
/-! Dn part 42: dict of a list of pairs with tuples for keys, update of such dicts. -/
namespace Dn
open PySem PySem.Spec PyProof.Rows L2
def pairT : D → Option (List Key × D)
  | .tup [k, v] => (keysD k).map fun ks => (ks, v)
  | _ => none
def pairsT : List D → Option (List (List Key × D))
  | [] => some []
  | d :: r => (pairT d).bind fun kv => (pairsT r).map (kv :: ·)
def mergeT (kvs more : List (List Key × D)) : List (List Key × D) := more.foldl (fun acc kv => putD acc kv.1 kv.2) kvs
def mergeV (kvs more : List (List Key × V)) : List (List Key × V) := more.foldl (fun acc kv => putK acc kv.1 kv.2) kvs
section
variable {X : Cx} {W : WX} {K : PySem.W.Frag} {w w1 w' : Wd} {σ : L2.St} {H H1 H' : Hp} {ρ : Env} {η η1 η' : Store} {a : Addr}
theorem repF_mergeT : ∀ {more : List (List Key × V)} {ms : List (List Key × D)} {xs : List (List Key × V)} {fs : List (List Key × D)}, RepF K w H more ms → RepF K w H xs fs → RepF K w H (mergeV xs more) (mergeT fs ms)
  | [], [], _, _, _, h => h
  | [], _ :: _, _, _, h, _ => by have := repF_length h; cases this
  | _ :: _, [], _, _, h, _ => by have := repF_length h; cases this
  | p :: ps, q :: qs, xs, fs, h, h2 => by
    obtain ⟨e1, e2, e3⟩ := repF_cons.mp h
    refine repF_mergeT (xs := putK xs p.1 p.2) (fs := putD fs q.1 q.2) e3 ?_
    rw [← e1]
    exact repF_put h2 e2
theorem KT_merge : ∀ {more : List (List Key × V)} {ys : List (List Key × Addr × Value)} {kvs : List (List Key × V)} {xs : List (List Key × Addr × Value)}, L2.KT H more ys → L2.KT H kvs xs → L2.KT H (mergeV kvs more) (storedAllH xs ys)
  | _, _, _, _, .nil, h => h
  | _, _, _, _, .cons (a := p) (b := q) h t, h2 => by
    obtain ⟨e1, e2, e3⟩ := h
    have h3 := h2.put p.1 e2 e3
    have := KT_merge t h3
    show L2.KT H (mergeV (putK _ p.1 p.2) _) (storedAllH (storedH _ q.1 q.2.1 q.2.2) _)
    rw [← e1]
    exact this
theorem length_mergeV : ∀ (more kvs : List (List Key × V)), (mergeV kvs more).length ≤ kvs.length + more.length
  | [], kvs => by show kvs.length ≤ kvs.length + 0; omega
  | p :: r, kvs => by
    have h1 := length_mergeV r (putK kvs p.1 p.2)
    have h2 : (putK kvs p.1 p.2).length ≤ kvs.length + 1 := by
      unfold putK
      split
      · rw [List.length_map]; omega
      · rw [List.length_append]; exact Nat.le_refl _
    show (mergeV (putK kvs p.1 p.2) r).length ≤ _
    rw [List.length_cons]; omega
/-! ### dict(pairs) -/
theorem pairsT_ok {pins : List (Addr × Obj)} {s : Shared} (I : Inv X pins σ H s) : ∀ {vs : List V} {us : List Value} {ds : List D} {kvs : List (List Key × D)}, RepVs X.K w H vs ds → Vals vs us → pairsT ds = some kvs →
    ∃ (Ts : List Addr) (qs : List (List Key × Addr × Value)) (xs : List (List Key × V)), us = Ts.map Value.ref ∧ Ts.length = qs.length ∧ L2.KT H xs qs ∧ RepF X.K w H xs kvs ∧
      ∀ (j : Nat) (q : List Key × Addr × Value), qs[j]? = some q → ∃ t, Ts[j]? = some t ∧ IsTup s.heap t #[.ref q.2.1, q.2.2]
  | _, _, _, _, .nil, rv, h => by
    cases h; cases rv
    exact ⟨[], [], [], rfl, rfl, .nil, repF_nil, fun j q e => by simp at e⟩
  | _, _, _, kvs, .cons (v := v) (d := d) (ds := ds) r rs, rv, h => by
    cases rv with | cons rv1 rv2 => ?_
    have h' : ((pairT d).bind fun kv => (pairsT ds).map (kv :: ·)) = some kvs := h
    cases e1 : pairT d with
    | none => rw [e1] at h'; cases h'
    | some kv =>
      cases e2 : pairsT ds with
      | none => rw [e1, e2] at h'; cases h'
      | some kvs0 =>
        rw [e1, e2] at h'; cases h'
        obtain ⟨Ts, qs, xs, eu, el, kt, rf, hq⟩ := pairsT_ok I rs rv2 e2
        unfold pairT at e1
        split at e1
        case h_2 => cases e1
        rename_i dk dv
        cases ek : keysD dk with
        | none => rw [ek] at e1; cases e1
        | some ks =>
          rw [ek] at e1; cases e1
          obtain ⟨t, ys, rfl, hs, q⟩ := tup_inv r
          obtain ⟨y1, ys1, rfl, q1, q2⟩ := reps_cons q
          obtain ⟨y2, ys2, rfl, q3, q4⟩ := reps_cons q2
          obtain rfl := reps_nil q4
          obtain ⟨b, e3, eb, _⟩ := keysD_ok q1 ek
          subst e3
          obtain rfl := rv1
          obtain ⟨its, rvi, ht, _⟩ := I.tuple hs.sq
          obtain ⟨u1, u2, rfl, ru1, ru2⟩ := vals2 rvi
          obtain rfl := ru1
          refine ⟨t :: Ts, (ks, b, u2) :: qs, (ks, y2) :: xs, by rw [eu]; rfl, by simp [el], .cons ⟨rfl, eb, ru2⟩ kt, repF_cons.mpr ⟨rfl, q3, rf⟩, fun j q e => ?_⟩
          cases j with
          | zero => cases e; exact ⟨t, rfl, ht⟩
          | succ j =>
            obtain ⟨t', h1, h2⟩ := hq j q (by simpa using e)
            exact ⟨t', by simpa using h1, h2⟩
theorem KT_mem : ∀ {xs : List (List Key × V)} {qs : List (List Key × Addr × Value)}, L2.KT H xs qs → ∀ q ∈ qs, H q.2.1 = some (.tup (q.1.map kV))
  | _, _, .nil, q, h => nomatch h
  | _, _, .cons ⟨e1, e2, _⟩ t, q, h => by
    rcases List.mem_cons.mp h with rfl | h
    · rw [← e1]; exact e2
    · exact KT_mem t q h
theorem key_stays {P : Program} {wd : World} {h h' : Heap} {k : List Key} {b : Addr} (x : (tupleKind (mixKind P wd)).is h k b) (e : ∀ o, h.get? b = some o → h'.get? b = some o) : (tupleKind (mixKind P wd)).is h' k b := by
  obtain ⟨o, items, n, ho, r⟩ := x
  exact ⟨o, items, n, e _ ho, r⟩
def dictT : GL := fun ds η => match ds with
  | [d] => (match seqL d η with
    | some xs => (match pairsT xs with
      | some kvs => some (.obj η.length, η ++ [.dT (mergeT [] kvs)])
      | none => none)
    | none => none)
  | _ => none
theorem callT_dict (hc : X.calm = true) (hu : X.A.units + 64 < cLine) : CallR X (.type "dict") (rdL X.K dictT) := by
  intro pins s σ H xs us Q I rx ⟨w, η, ds, hr, r1, p⟩
  unfold dictT at p
  split at p
  case h_2 => exact p.elim
  rename_i d
  split at p
  case h_2 => exact p.elim
  rename_i xs0 es
  split at p
  case h_2 => exact p.elim
  rename_i kvs ek
  cases r1 with | cons rv rr => ?_
  cases rr
  obtain ⟨a, ys, ev, hs, q⟩ := seqL_ok hr rv es
  subst ev
  rw [Vals.ref1 rx]
  obtain ⟨its, rvs, pl, hz⟩ := I.list hs
  obtain ⟨Ts, qs, zs, eu, el, kt, rf, hq⟩ := pairsT_ok I q rvs ek
  have hzl : qs.length ≤ sizeLine := by
    have := rvs.length
    rw [eu, List.length_map] at this
    omega
  obtain ⟨o, n, ho, hcl, hd, hdat⟩ := pl
  have P := PairArg.list (prog := X.prog) (w := X.w) a its.toArray (fun j => Ts.getD j 0) (qs.map fun q => (Value.ref q.2.1, q.2.2))
  have hm : (s.heap.objs.size == sysModules) = false := beq_eq_false_iff_ne.mpr (Nat.ne_of_gt I.big)
  refine call_dict_pairsH (knd := tupleKind (mixKind X.prog X.w)) (ps := qs) P (I.ok.hd hc) (by show X.A.units + 1 + 1 < cLine; omega) ⟨⟨o, n, ho, hcl, hd, hdat⟩, ?_, fun j k v hj => ?_⟩ ⟨by rw [List.length_map], fun i key v hr => ?_⟩ (fun h' hk x hx => ?_) (by rw [List.length_map]; exact hzl) fun h' tk hd' hk => ?_
  · rw [List.size_toArray, List.length_map, eu, List.length_map, el]
  · rw [List.getElem?_map] at hj
    cases e1 : qs[j]? with
    | none => rw [e1] at hj; cases hj
    | some q =>
      rw [e1] at hj
      cases hj
      obtain ⟨t, et, ht⟩ := hq j q e1
      have e2 : Ts.getD j 0 = t := by rw [List.getD_eq_getElem?_getD, et]; rfl
      dsimp only
      rw [e2]
      refine ⟨by rw [List.getElem?_toArray, eu, List.getElem?_map, et]; rfl, .inl ?_⟩
      exact ht
  · have hr' : (qs.map fun q => (Value.ref q.2.1, q.2.2))[i]? = some (key, v) := hr
    rw [List.getElem?_map] at hr'
    cases e1 : qs[i]? with
    | none => rw [e1] at hr'; cases hr'
    | some q => rw [e1] at hr'; cases hr'; exact ⟨q.1, q.2.1, rfl, rfl⟩
  · have hx0 := key_of (P := X.prog) (w := X.w) I.hok (KT_mem kt x hx)
    refine key_stays hx0 fun ob e => hk _ ob (Nat.ne_of_lt (Heap.lt_size e)) (fun z => nomatch z) e
  · have hlen : (mergeV [] zs).length ≤ sizeLine := by
      refine Nat.le_trans (length_mergeV zs []) ?_
      rw [List.length_nil, Nat.zero_add, show zs.length = qs.length from Paired.length kt]
      exact hzl
    have hfresh := I.hok.fresh (Nat.le_refl s.heap.objs.size)
    have hrep : RepF X.K w H (mergeV [] zs) (mergeT [] kvs) := repF_mergeT rf repF_nil
    refine ⟨.ref s.heap.objs.size, upd H s.heap.objs.size (.dT (mergeV [] zs)), I.laid (t' := tk) (fun b o e => hk b o (fun z => nomatch z) e) (Nat.le_refl _) ?_, rfl, p _ _ _ (Ext.more hfresh hr) (hr.more hfresh ⟨_, upd_same, hrep.ext (Ext.more hfresh hr)⟩) (.obj (hr.ixO _))⟩
    obtain ⟨o', es', ep', g1, g2, g3, g4, _, g5⟩ := hd'
    refine ⟨hlen, hm, storedAllH [] qs, (KT_merge kt (kvs := []) (xs := []) .nil).keeps fun b ys e => ?_, o', es', ep', g1, g2, g3, g4, g5⟩
    rw [upd_ne (ne_of_none e hfresh)]
    exact e
/-! ### update -/
def hT (ns : List Int) : Int := reduceHash (Builtin.Tuple.tupleHashOf (ns.map hashInt))
def intKss : List (List Key) → Option (List (List Int))
  | [] => some []
  | k :: r => (intKeys k).bind fun ns => (intKss r).map (ns :: ·)
theorem intKss_ok : ∀ {ks : List (List Key)} {nss : List (List Int)}, intKss ks = some nss → ks = nss.map fun ns => ns.map Sum.inl
  | [], _, h => by cases h; rfl
  | k :: r, _, h => by
    have h' : ((intKeys k).bind fun ns => (intKss r).map (ns :: ·)) = some _ := h
    cases e1 : intKeys k with
    | none => rw [e1] at h'; cases h'
    | some ns =>
      cases e2 : intKss r with
      | none => rw [e1, e2] at h'; cases h'
      | some ms => rw [e1, e2] at h'; cases h'; rw [intKss_ok e2, intKeys_ok e1]; rfl
def hashOk (more : List (List Key × D)) : Bool := match intKss (more.map (·.1)) with
  | some nss => decide ((nss.map hT).Nodup)
  | none => false
theorem hash_of {P : Program} {wd : World} (ns : List Int) : (tupleKind (mixKind P wd)).hash (ns.map Sum.inl) = hT ns := by
  show reduceHash (Builtin.Tuple.tupleHashOf ((ns.map Sum.inl).map (keyH wd))) = _
  rw [List.map_map]
  rfl
def updT : D → GL := fun x ds η => match x, ds with
  | .obj k, [.obj j] => (match η[k]?, η[j]? with
    | some (.dT kvs), some (.dT more) => if k ≠ j ∧ kvs.length + more.length ≤ sizeLine ∧ (kvs ≠ [] ∨ hashOk more = true) then some (.non, η.set k (.dT (mergeT kvs more))) else none
    | _, _ => none)
  | _, _ => none
theorem mtT_update (hu : X.A.units + 64 < cLine) : MtR X "dict.update" (rdM X.K updT) := by
  intro pins s σ H x xs v us Q I rx rxs ⟨w, η, d, ds, hr, r1, r2, p⟩
  unfold updT at p
  split at p
  case h_2 => exact p.elim
  rename_i k j
  split at p
  case h_2 => exact p.elim
  rename_i kvs more e1 e2
  split at p
  case isFalse => exact p.elim
  rename_i c
  obtain ⟨hne, hz, hap⟩ := c
  cases r1 with | obj ha => ?_
  cases r2 with | cons rv rr => ?_
  cases rr
  cases rv with | obj hb => ?_
  rename_i a b
  obtain ⟨ys, eH, f⟩ := hr.at_ _ _ _ ha e1
  obtain ⟨zs, eH2, f2⟩ := hr.at_ _ _ _ hb e2
  obtain rfl := rx
  rw [Vals.ref1 rxs]
  obtain ⟨_, hsa, xa, ka, da⟩ := dt_of I.hok eH
  obtain ⟨_, hsb, xb, kb, db⟩ := dt_of I.hok eH2
  have hab : a ≠ b := fun e => hne (by
    subst e
    obtain ⟨i1, g1⟩ := List.getElem?_eq_some_iff.mp ha
    obtain ⟨i2, g2⟩ := List.getElem?_eq_some_iff.mp hb
    exact (List.getElem_inj hr.nd).mp (g1.trans g2.symm))
  have hmore : (mergeV ys zs).length ≤ sizeLine := by
    have h1 := length_mergeV zs ys
    rw [repF_length f, repF_length f2] at h1
    omega
  refine call_update_dictH (knd := tupleKind (mixKind X.prog X.w)) (by show X.A.units + 1 < cLine; omega) hab hsb da db ?_ (by
    have l1 : ys.length = xa.length := Paired.length ka
    have l2 : zs.length = xb.length := Paired.length kb
    rw [repF_length f] at l1
    rw [repF_length f2] at l2
    omega) fun h' hd' ho' hs' => ?_
  · rcases hap with q | q
    · refine .inl fun e => q ?_
      have l1 : ys.length = xa.length := Paired.length ka
      rw [repF_length f, e] at l1
      exact List.length_eq_zero_iff.mp l1
    · refine .inr ⟨fun x hx => ?_, ?_⟩
      · obtain ⟨o, items, n, ho, hcl, _⟩ := key_of (P := X.prog) (w := X.w) I.hok (KT_mem kb x hx)
        exact ⟨o, ho, hcl⟩
      · unfold hashOk at q
        split at q
        · rename_i nss en
          have e3 : xb.map (·.1) = nss.map fun ns => ns.map Sum.inl := by
            rw [← intKss_ok en, ← f2.1]
            have : ∀ {l : List (List Key × V)} {m : List (List Key × Addr × Value)}, L2.KT H l m → m.map (·.1) = l.map (·.1) := by
              intro l m h
              induction h with
              | nil => rfl
              | cons h t ih => rw [List.map_cons, List.map_cons, ih, h.1]
            exact this kb
          have e4 : (xb.map fun x => (tupleKind (mixKind X.prog X.w)).hash x.1) = nss.map hT := by
            have : (xb.map fun x => (tupleKind (mixKind X.prog X.w)).hash x.1) = (xb.map (·.1)).map (tupleKind (mixKind X.prog X.w)).hash := by rw [List.map_map]; rfl
            rw [this, e3, List.map_map]
            exact List.map_congr_left fun ns _ => hash_of ns
          rw [e4]
          exact of_decide_eq_true q
        · cases q
  · have rel : L2.KT H (mergeV ys zs) (storedAllH xa xb) := KT_merge kb ka
    have hrep : RepF X.K w H (mergeV ys zs) (mergeT kvs more) := repF_mergeT f2 f
    obtain ⟨o', es', ep', g1, g2, g3, g4, _, g5⟩ := hd'
    refine ⟨.non, upd H a (.dT (mergeV ys zs)), d_write I (by rw [eH]; exact True.intro) hs' ⟨_, g1⟩ ⟨hmore, hsa, storedAllH xa xb, rel.keeps fun c us ec => ?_, o', es', ep', g1, g2, g3, g4, g5⟩, rfl, p _ w _ (Ext.write ha (nf_dT eH) hr) (hr.write ha ⟨_, upd_same, hrep.mv (Mv.write ha)⟩) .non⟩
    rw [upd_ne (ne_of ec eH (fun z => nomatch z))]
    exact ec
end
end Dn
/-! Dn part 43: d == {} of a dict with tuples for keys; xs[:0:-1]. -/
namespace Dn
open PySem PySem.Spec PyProof.Rows L2 PySem.Calls
section
variable {prog : Program} {wd : World} {A : Around} {E : Value → Shared → Prop} {s : Shared}
theorem samePairs_nil {nm : String} {a b : Addr} {oa ob : Obj} {es es' : Array DictEntry} {ep ep' : Nat} {Q : Bool → Shared → Prop} (ha : (a == sysModules) = false) (hb : (b == sysModules) = false)
    (hoa : s.heap.get? a = some oa) (hda : oa.data = .dict es ep) (hob : s.heap.get? b = some ob) (hdb : ob.data = .dict es' ep') (h0 : es'.size = 0) (h : Q (es.size == 0) s) :
    wpAny (model prog wd) A (Builtin.Dict.samePairs nm a b) Q E s := by
  unfold Builtin.Dict.samePairs Builtin.Dict.showsAll
  rw [if_neg (show ¬ (a == sysModules) = true by rw [ha]; exact Bool.false_ne_true), if_neg (show ¬ (b == sysModules) = true by rw [hb]; exact Bool.false_ne_true)]
  refine wpAny_bind (wpAny_pure (wpAny_bind (wpAny_pure ?_)))
  refine wpAny_bind (wpAny_dictEntries hoa hda ?_)
  dsimp only
  refine wpAny_bind (wpAny_dictEntries hob hdb ?_)
  by_cases hsz : es.size = es'.size
  case neg =>
    rw [if_pos (by simpa using hsz)]
    have hbf : (es.size == 0) = false := by
      rw [h0] at hsz
      simpa using hsz
    rw [hbf] at h
    exact wpAny_bind (wpAny_rule (wpAny_pure h))
  case pos =>
    rw [hsz, h0] at h
    rw [if_neg (by rw [hsz]; simp)]
    refine wpAny_bind (wpAny_dictEpoch hoa hda ?_)
    refine wpAny_bind ?_
    rw [hsz, h0, Std.Legacy.Range.forIn_eq_forIn_range']
    simp only [Std.Legacy.Range.size, Nat.sub_zero, Nat.add_sub_cancel, Nat.div_one]
    exact wpAny_pure (wpAny_pure h)
theorem eq_nil {a b : Addr} {oa ob : Obj} {es es' : Array DictEntry} {ep ep' : Nat} {Q : Value → Shared → Prop} (ha : (a == sysModules) = false) (hb : (b == sysModules) = false)
    (hoa : s.heap.get? a = some oa) (hxa : oa.ExactDict) (hda : oa.data = .dict es ep) (hob : s.heap.get? b = some ob) (hxb : ob.ExactDict) (hdb : ob.data = .dict es' ep') (h0 : es'.size = 0) (hu : A.units < cLine) (h : Q (.bool (es.size == 0)) s) :
    wpAny (model prog wd) A (compareOp .Eq (.ref a) (.ref b)) Q E s := by
  have da : s.TypeIs (.ref a) "dict" := ⟨oa, hoa, hxa.1⟩
  have db : s.TypeIs (.ref b) "dict" := ⟨ob, hob, hxb.1⟩
  refine wpAny_richCompare_same_room (op := .Eq) da db PySem.F.slot_dict_eq (wpAny_call_entry PySem.F.slot_dict_eq da PySem.F.entry_dict_eq ?_ (PySem.F.args_dict_eq_2 _ _)) hu
  show wpAny _ _ (Builtin.Dict.dictSlotArgs "__eq__" ⟨[.ref a, .ref b], []⟩ >>= _) _ _ s
  refine wpAny_bind ?_
  unfold Builtin.Dict.dictSlotArgs
  refine wpAny_bind (wpAny_notOrdered_dict da ?_)
  show wpAny _ _ (pure (Value.ref a, Value.ref b)) _ _ s
  refine wpAny_pure ?_
  refine wpAny_bind (wpAny_isInstance (T := "dict") db PySem.F.sub_dict_dict ?_)
  simp only [Bool.not_true, Bool.false_eq_true, if_false]
  refine wpAny_bind (wpAny_pure (wpAny_bind (wpAny_pure ?_)))
  refine wpAny_bind (samePairs_nil ha hb hoa hda hob hdb h0 ?_)
  refine wpAny_pure ⟨_, rfl, ?_, ?_⟩
  · exact fun x => nomatch x
  · rw [beq_true]; exact h
end
section
variable {X : Cx} {W : WX} {K : PySem.W.Frag} {w w1 w' : Wd} {σ : L2.St} {H H1 H' : Hp} {ρ : Env} {η η1 η' : Store} {a : Addr} {e : Expr} {f : FE} {pos : Pos}
/-- x == y; of a dict with tuples for keys and one that is empty -/
def eqT : G2 := fun x y η => match x, y with
  | .obj i, .obj j => (match η[i]?, η[j]? with
    | some (.dT kvs), some (.dT ls) => if ls = [] then some (.bl kvs.isEmpty, η) else none
    | _, _ => eqD x y η)
  | _, _ => eqD x y η
theorem opT_eq (hu : X.A.units + 64 < cLine) : OpR X (compareOp .Eq) (rd2 X.K eqT) := by
  intro pins s σ H x y v u Q I rx ry ⟨w, η, d1, d2, hr, r1, r2, p⟩
  unfold eqT at p
  split at p
  case h_2 => exact opD_eq hu pins s σ H x y v u Q I rx ry ⟨w, η, d1, d2, hr, r1, r2, p⟩
  rename_i i j
  split at p
  case h_2 => exact opD_eq hu pins s σ H x y v u Q I rx ry ⟨w, η, _, _, hr, r1, r2, p⟩
  rename_i kvs ls e1 e2
  split at p
  case isFalse => exact p.elim
  rename_i e3
  subst e3
  cases r1 with | obj ha => ?_
  cases r2 with | obj hb => ?_
  obtain ⟨ys, eH, f⟩ := hr.at_ _ _ _ ha e1
  obtain ⟨zs, eH2, f2⟩ := hr.at_ _ _ _ hb e2
  obtain rfl := rx
  obtain rfl := ry
  obtain ⟨_, hsa, xa, ka, oa, es, ep, hoa, hxa, hda, hea, _⟩ := (show ObjOk X.prog X.w H s.heap _ (.dT ys) from I.hok _ _ eH)
  obtain ⟨_, hsb, xb, kb, ob, es', ep', hob, hxb, hdb, heb, _⟩ := (show ObjOk X.prog X.w H s.heap _ (.dT zs) from I.hok _ _ eH2)
  have l1 : es.size = kvs.length := by
    rw [size_of_entries hea, ← repF_length f]
    exact (Paired.length ka).symm
  have l2 : es'.size = 0 := by
    rw [size_of_entries heb, ← show zs.length = xb.length from Paired.length kb, repF_length f2]; rfl
  refine eq_nil hsa hsb hoa hxa hda hob hxb hdb l2 (by omega) ⟨.bl _, H, I, rfl, ?_⟩
  have e4 : (es.size == 0) = kvs.isEmpty := by
    rw [l1]
    cases kvs <;> rfl
  rw [e4]
  exact p _ w H .refl hr (.bl _)
/-! ### xs[:0:-1] -/
theorem pick_tail (its : List Value) : slicePick its.toArray none (some 0) (some (-1)) = its.tail.reverse.toArray := by
  cases its with
  | nil => rfl
  | cons x t =>
    have hb : sliceBounds none (some 0) (some (-1)) (x :: t).toArray.size = ((t.length : Int), 0, -1) := by
      have e : (x :: t).toArray.size = t.length + 1 := by simp
      rw [e]
      have h1 : ¬ ((-1 : Int) > 0) := by decide
      simp only [sliceBounds, Option.getD_some, h1, if_false]
      refine Prod.ext (by show ((t.length + 1 : Nat) : Int) - 1 = _; omega) (Prod.ext ?_ rfl)
      show (let i := if (0 : Int) < 0 then 0 + ((t.length + 1 : Nat) : Int) else 0; max (-1) (min i (((t.length + 1 : Nat) : Int) - 1))) = 0
      dsimp only
      rw [if_neg (by decide)]
      omega
    unfold slicePick
    rw [hb]
    have hs : sliceRange (t.length : Int) 0 (-1) = ((List.range t.length).map (· + 1)).reverse := by
      unfold sliceRange
      have h1 : ¬ ((-1 : Int) > 0) := by decide
      have e : (if (-1 : Int) > 0 then (if (t.length : Int) < 0 then (0 - (t.length : Int) + -1 - 1) / -1 else 0) else (if (t.length : Int) > 0 then ((t.length : Int) - 0 - -1 - 1) / (- -1) else 0)).toNat = t.length := by
        rw [if_neg h1, show (- -1 : Int) = 1 by decide, Int.ediv_one]
        split <;> omega
      dsimp only
      rw [e]
      apply List.ext_getElem
      · simp
      · intro i h1 h2
        simp only [List.length_map, List.length_range] at h1
        rw [List.getElem_map, List.getElem_reverse]
        simp only [List.getElem_range, List.length_map, List.length_range, List.getElem_map]
        omega
    show ((sliceRange (t.length : Int) 0 (-1)).filterMap (fun i => (x :: t).toArray[i]?)).toArray = _
    rw [hs, List.filterMap_reverse, List.filterMap_map]
    have := PySem.W.krv_all t.toArray
    have e2 : List.filterMap ((fun i => (x :: t).toArray[i]?) ∘ fun x => x + 1) (List.range t.length) = t := by
      have e3 : ((fun i => (x :: t).toArray[i]?) ∘ fun x => x + 1) = fun i => t.toArray[i]? := by
        funext i
        simp
      rw [e3]
      simpa using this
    rw [e2]
    rfl
def tRevT (K : PySem.W.Frag) (te : TE) : TE := fun σ H Q => te σ H fun x H1 => ∃ a xs, x = .ref a ∧ SqL K H1 a xs ∧ ∀ p, H1 p = none → Q (.ref p) (upd H1 p (.lst xs.tail.reverse))
theorem pe_revT {te : TE} {k k2 : Nat} {p0 p1 p2 p3 : Pos} (he : PE X e te) : PE X (.Subscript e (.Slice none (some (.Constant (.int 0) k2 p0)) (some (.UnaryOp .USub (.Constant (.int 1) k p1) p2)) p3) pos) (tRevT X.K te) := by
  refine ⟨fun pins s σ H Q I h => ?_⟩
  refine Subscript_ (thn (he.run pins s σ H _ I h) fun v s1 ⟨x, H1, I1, r1, q1⟩ => ?_)
  obtain ⟨a, xs, ex, hx, q⟩ := q1
  subst ex
  cases r1
  have hst : PO X (some (.UnaryOp .USub (.Constant (.int 1) k p1) p2)) (tPart (tUn (rU fun i => .int (-i)) (tC (.int 1)))) := po_some (pe_un un_neg pe_int)
  have hup : PO X (some (.Constant (.int 0) k2 p0)) (tPart (tC (.int 0))) := po_some pe_int
  refine wpAny_Slice (thn (po_none.run pins s1 σ H1 (fun o H2 => o = none ∧ H2 = H1) I1 ⟨rfl, rfl⟩) fun vl s2 ⟨l, H2, I2, pl, el, e2⟩ => ?_)
  subst el e2
  refine thn (hup.run pins s2 σ H2 (fun o H3 => o = some 0 ∧ H3 = H2) I2 ⟨0, rfl, rfl, rfl⟩) fun vu s3 ⟨u, H3, I3, pu, eu, e3⟩ => ?_
  subst eu e3
  refine thn (hst.run pins s3 σ H3 (fun o H4 => o = some (-1) ∧ H4 = H3) I3 ⟨1, rfl, -1, rfl, rfl, rfl⟩) fun vs s4 ⟨o, H4, I4, ps, eo, e4⟩ => ?_
  subst eo e4
  have I5 : Inv X pins σ H4 { s4 with heap := s4.heap.push { cls := .type "slice", data := .fields #[vl, vu, vs] } } := I4.kept (t' := s4.toks) fun b ob q => Heap.get?_push_of_some _ q
  obtain ⟨its, r, ht, hz⟩ := I5.list hx
  have hlen := r.length
  show wpAny (model X.prog X.w) X.A (subscriptTail e (.Slice none (some (.Constant (.int 0) k2 p0)) (some (.UnaryOp .USub (.Constant (.int 1) k p1) p2)) p3) (.ref a) (.ref s4.heap.objs.size)) (EP X pins σ Q) X.xe { s4 with heap := s4.heap.push { cls := .type "slice", data := .fields #[vl, vu, vs] } }
  refine tail_any (ops := [.ref a, .ref s4.heap.objs.size]) ht.isList.typeIs (PySem.slot_list_getitem.lookup) ?_ (by with_unfolding_all rfl)
  refine wpAny_getItem_list_slice ht.isList (Heap.IsSliceOf.new _ vl vu vs) pl pu ps (by decide) ?_ (by rw [List.size_toArray]; omega)
  rw [pick_tail]
  have rt : Vals xs.tail its.tail := by
    cases r with
    | nil => exact .nil
    | cons h t => exact t
  refine ⟨.ref _, _, I5.laid (t' := s4.toks) (o := .lst xs.tail.reverse) (fun b ob q => Heap.get?_push_of_some _ q) (Nat.le_refl _) ?_, rfl, q _ (I5.hok.fresh (Nat.le_refl _))⟩
  exact ⟨by rw [List.length_reverse, List.length_tail]; omega, _, 0, rt.reverse, Heap.get?_push_size _ rfl⟩
def revT : G1 := fun x η => match seqL x η with
  | some xs => some (.lst xs.tail.reverse, η)
  | none => none
theorem reps_tail {vs : List V} {ds : List D} (r : RepVs K w H vs ds) : RepVs K w H vs.tail ds.tail := by
  cases r with
  | nil => exact .nil
  | cons h t => exact t
theorem de_revT {k k2 : Nat} {p0 p1 p2 p3 : Pos} (he : DE X W e f) : DE X W (.Subscript e (.Slice none (some (.Constant (.int 0) k2 p0)) (some (.UnaryOp .USub (.Constant (.int 1) k p1) p2)) p3) pos) (e1 revT f) :=
  PE.imp (pe_revT he) fun σ H Q ⟨w, ρ, η, rel, p⟩ => by
    refine (rdE_then rel p).imp fun v H1 ⟨w1, d, η1, e, rel1, rv, p1⟩ => ?_
    cases eg : revT d η1 with
    | none => rw [eg] at p1; exact p1.elim
    | some zη =>
      obtain ⟨z, η'⟩ := zη
      rw [eg] at p1
      unfold revT at eg
      split at eg
      · rename_i xs es
        cases eg
        obtain ⟨a, ys, rfl, s, q⟩ := seqL_ok rel1.heap rv es
        exact ⟨a, ys, rfl, s, fun p hp => lst_of (fun v w' H' e' hr' r' => p1 v w' H' e' hr' r') rel1.heap (reps_tail q).reverse hp⟩
      · cases eg
end
end Dn
/-! Dn part 44: wishes of walks over lists that may change; of dicts with tuples for keys. -/
namespace Dn
open PySem PySem.Spec PyProof.Rows L2
section
variable {b : TGt} {body : FS} {s : FT} {te : FE} {ρ : Env} {η : Store} {P : Po}
theorem objAt_of {k i : Nat} {xs : List D} (h : η[k]? = some (.lst xs)) (hi : i ≤ xs.length) : objAt k i η = some xs[i]? := by
  unfold objAt
  rw [h]
  exact if_pos hi
/-- for x in a list that may change, but does not meanwhile -/
theorem w_forO (I : Nat → Env → Store → Prop) {k : Nat} {xs : List D} (hk : ∀ j ρ η, I j ρ η → η[k]? = some (.lst xs))
    (h1 : ∀ j x, xs[j]? = some x → ∀ ρ η, I j ρ η → wpO (b x ρ) fun ρ => wpS (body ρ η) ⟨I (j + 1), P.rt, P.nx, I (j + 1), P.ex⟩)
    (h2 : ∀ ρ η, I xs.length ρ η → P.nx ρ η) : ∀ (N i : Nat) {ρ : Env} {η : Store}, i ≤ xs.length → xs.length - i < N → I i ρ η → wpS (forO b body (objAt k) N i ρ η) P
  | 0, i, ρ, η, _, h, _ => by omega
  | N + 1, i, ρ, η, hi, hN, h0 => by
    unfold forO
    rw [objAt_of (hk i ρ η h0) hi]
    by_cases hlt : i < xs.length
    · have ex : xs[i]? = some xs[i] := List.getElem?_eq_getElem hlt
      rw [ex]
      have h := h1 i xs[i] ex ρ η h0
      dsimp only
      cases eb : b xs[i] ρ with
      | none => rw [eb] at h; exact h.elim
      | some ρ1 =>
        rw [eb] at h
        replace h : wpS (body ρ1 η) _ := h
        dsimp only
        have go : ∀ ρ2 η2, I (i + 1) ρ2 η2 → wpS (forO b body (objAt k) N (i + 1) ρ2 η2) P := fun ρ2 η2 q => w_forO I hk h1 h2 N (i + 1) (by omega) (by omega) q
        cases er : body ρ1 η with
        | nx ρ2 η2 => rw [er] at h; exact go _ _ h
        | cnt ρ2 η2 => rw [er] at h; exact go _ _ h
        | brk ρ2 η2 => rw [er] at h; exact h
        | ret d η2 => rw [er] at h; exact h
        | exc x ρ2 η2 => rw [er] at h; exact h
        | no => rw [er] at h; exact h
    · have e : i = xs.length := by omega
      subst e
      rw [List.getElem?_eq_none (Nat.le_refl _)]
      exact h2 ρ η h0
/-- a comprehension over such a list, that changes nothing -/
theorem cmpO_eq {k : Nat} {xs : List D} (hk : η[k]? = some (.lst xs)) (h : ∀ x ∈ xs, ∃ ρ1, b x ρ = some ρ1 ∧ ∃ q, s ρ1 η = .ok q η ∧ (q = true → ∃ y, te ρ1 η = .ok y η)) :
    ∀ (N i : Nat), i ≤ xs.length → xs.length - i < N → cmpO b s te ρ (objAt k) N i η = cmp b s te ρ (xs.drop i) η
  | 0, i, _, hN => by omega
  | N + 1, i, hi, hN => by
    unfold cmpO
    rw [objAt_of hk hi]
    by_cases hlt : i < xs.length
    · have ex : xs[i]? = some xs[i] := List.getElem?_eq_getElem hlt
      rw [ex, List.drop_eq_getElem_cons hlt]
      obtain ⟨ρ1, e1, q, e2, e3⟩ := h xs[i] (List.getElem_mem hlt)
      have ih := cmpO_eq hk h N (i + 1) (by omega) (by omega)
      unfold cmp
      dsimp only
      rw [e1]
      dsimp only
      rw [e2, R.bind_ok, R.bind_ok]
      cases q with
      | true =>
        rw [if_pos rfl, if_pos rfl]
        obtain ⟨y, e4⟩ := e3 rfl
        rw [e4, R.bind_ok, R.bind_ok, ih]
      | false => rw [if_neg (by simp), if_neg (by simp), ih]
    · have e : i = xs.length := by omega
      subst e
      rw [List.getElem?_eq_none (Nat.le_refl _), List.drop_length]
      rfl
theorem srcOf_obj {k : Nat} {xs : List D} (h : η[k]? = some (.lst xs)) : srcOf (.obj k) η = some (.dyn (objAt k)) := by
  unfold srcOf
  dsimp only
  rw [h]
/-- for x in name, where the name holds a list -/
theorem w_forLst (I : Nat → Env → Store → Prop) {d : D} {xs : List D} {i : Nat} (hd : d = .lst xs ∨ ∃ k, d = .obj k ∧ ∀ j ρ η, I j ρ η → η[k]? = some (.lst xs)) (hρ : ρ[i]? = some (some d)) (h0 : I 0 ρ η) (hn : xs.length ≤ 1000000)
    (h1 : ∀ j x, xs[j]? = some x → ∀ ρ η, I j ρ η → wpO (b x ρ) fun ρ => wpS (body ρ η) ⟨I (j + 1), P.rt, P.nx, I (j + 1), P.ex⟩)
    (h2 : ∀ ρ η, I xs.length ρ η → P.nx ρ η) : wpS (sFor fuel (iVal (gv i)) b body ρ η) P := by
  rw [w_for, w_iVal, w_gv, hρ]
  rcases hd with rfl | ⟨k, rfl, hk⟩
  · show wpS (forL b body xs ρ η) P
    exact w_forL I xs 0 h0 (fun j x hx ρ η hI => by rw [Nat.zero_add] at hI ⊢; exact h1 j x hx ρ η hI) (fun ρ η hI => by rw [Nat.zero_add] at hI; exact h2 ρ η hI)
  · show wpO (srcOf (.obj k) η) _
    rw [srcOf_obj (hk 0 ρ η h0)]
    exact w_forO I hk h1 h2 fuel 0 (Nat.zero_le _) (fuel_lt (n := 40) (by
      have : (1000000 : Nat) < 2 ^ 40 := by decide
      omega) (by decide)) h0
/-- [.. for x in name if ..], where the name holds a list -/
theorem w_lcLst {vs : List Nat} {QD : D → Store → Prop} {E : Ex → Store → Prop} {d : D} {α : Type} {f : α → D} {g : α → D} {p : α → Bool} {l : List α} {i : Nat} (hd : d = .lst (l.map f) ∨ ∃ k, d = .obj k ∧ η[k]? = some (.lst (l.map f))) (hρ : ρ[i]? = some (some d)) (hn : l.length ≤ 1000000)
    (h : ∀ x ∈ l, ∃ ρ1, b (f x) (wipeD ρ vs) = some ρ1 ∧ s ρ1 η = .ok (p x) η ∧ (p x = true → te ρ1 η = .ok (g x) η)) (q : QD (.lst ((l.filter p).map g)) η) : wpR (lc fuel vs (iVal (gv i)) b s te ρ η) QD E := by
  have hc := cmp_off (b := b) (s := s) (te := te) (ρ := wipeD ρ vs) (η := η) f g p l h
  have hl : ((l.filter p).map g).length ≤ sizeLine := szle (by rw [List.length_map]; exact Nat.le_trans (List.length_filter_le _ _) hn)
  rw [w_lc, w_iVal, w_gv, hρ]
  rcases hd with rfl | ⟨k, rfl, hk⟩
  · show wpR (nx (cmp b s te (wipeD ρ vs) (l.map f) η)) _ _
    rw [hc]
    exact ⟨hl, q⟩
  · show wpO (srcOf (.obj k) η) _
    rw [srcOf_obj hk]
    show wpR (nx (cmpO b s te (wipeD ρ vs) (objAt k) fuel 0 η)) _ _
    rw [cmpO_eq hk (fun x hx => by
      obtain ⟨a, ha, rfl⟩ := List.mem_map.mp hx
      obtain ⟨ρ1, e1, e2, e3⟩ := h a ha
      exact ⟨ρ1, e1, p a, e2, fun hp => ⟨_, e3 hp⟩⟩) fuel 0 (Nat.zero_le _) (fuel_lt (n := 40) (by
        have : (1000000 : Nat) < 2 ^ 40 := by decide
        rw [List.length_map]; omega) (by decide)), List.drop_zero, hc]
    exact ⟨hl, q⟩
/-- a new list that is given back, wherever it lies among the new things -/
theorem trim_at {F : FF} {ds xs : List D} {k : Nat} {l : Store} (h : F ds η = .ok (.obj k) (η ++ l)) (hle : η.length ≤ k) (hk : (η ++ l)[k]? = some (.lst xs)) (hl : D.lows η.length xs = true) : trimF F ds η = .ok (.lst xs) η := by
  have hs : keepS η (η ++ l) := keepS_app _ _
  have hc : cutD η.length (η ++ l) (.obj k) = some (.lst xs) := by
    unfold cutD
    dsimp only
    rw [if_neg (by omega), hk]
    exact if_pos hl
  unfold trimF
  rw [h]
  unfold trimR
  dsimp only
  rw [if_pos hs, hc]
  simp
end
section
variable {X : Cx}
/-! ### in, not in: items of a tuple, by value -/
def inT : G2 := fun x y η => match pd x η, pd y η with
  | some p, some (.tuple qs) => if plainQ p ∧ plainQ (.tuple qs) then some (.bl (qs.any fun z => PyData.eqv z p), η) else none
  | _, _ => inX x y η
def notInT : G2 := fun x y η => match pd x η, pd y η with
  | some p, some (.tuple qs) => if plainQ p ∧ plainQ (.tuple qs) then some (.bl (!qs.any fun z => PyData.eqv z p), η) else none
  | _, _ => notInX x y η
theorem opT_in (hu : X.A.units + 65 < cLine) : OpR X (compareOp .In) (rd2 X.K inT) := by
  intro pins s σ H x y v u Q I rx ry ⟨w, η, d1, d2, hr, r1, r2, p⟩
  unfold inT at p
  split at p
  case h_2 => exact inX_ok hu pins s σ H x y v u Q I rx ry ⟨w, η, d1, d2, hr, r1, r2, p⟩
  rename_i q qs e1 e2
  split at p
  case isFalse => exact p.elim
  rename_i hp
  obtain ⟨as, q1⟩ := Dp.reads I _ _ _ (pd_ok hr r1 e1) rx
  obtain ⟨bs, q2⟩ := Dp.reads I _ _ _ (pd_ok hr r2 e2) ry
  exact SeqAt.in_tuple_reads q2 q1 (SeqAt.canLay_of_shaped hp.2) (SeqAt.canLay_of_shaped hp.1) (room_in_shaped hp.1 hu) ⟨.bl _, H, I, rfl, p _ w H .refl hr (.bl _)⟩
theorem opT_notIn (hu : X.A.units + 65 < cLine) : OpR X (compareOp .NotIn) (rd2 X.K notInT) := by
  intro pins s σ H x y v u Q I rx ry ⟨w, η, d1, d2, hr, r1, r2, p⟩
  unfold notInT at p
  split at p
  case h_2 => exact notInX_ok hu pins s σ H x y v u Q I rx ry ⟨w, η, d1, d2, hr, r1, r2, p⟩
  rename_i q qs e1 e2
  split at p
  case isFalse => exact p.elim
  rename_i hp
  obtain ⟨as, q1⟩ := Dp.reads I _ _ _ (pd_ok hr r1 e1) rx
  obtain ⟨bs, q2⟩ := Dp.reads I _ _ _ (pd_ok hr r2 e2) ry
  exact SeqAt.notIn_tuple_reads q2 q1 (SeqAt.canLay_of_shaped hp.2) (SeqAt.canLay_of_shaped hp.1) (room_in_shaped hp.1 hu) ⟨.bl _, H, I, rfl, p _ w H .refl hr (.bl _)⟩
theorem plain_ints : ∀ t : List Int, PyData.canLayAll0 (t.map PyData.int) = true
  | [] => rfl
  | x :: t => by
    show ((PyData.int x).canLay0 && PyData.canLayAll0 (t.map PyData.int)) = true
    rw [plain_ints t]; rfl
theorem pds0_ints : ∀ t : List Int, pds0 (t.map D.int) = some (t.map PyData.int)
  | [] => rfl
  | x :: t => by
    rw [List.map_cons]
    unfold pds0
    rw [pds0_ints t]; rfl
theorem eqv_ints (t : List Int) (a : Int) : ((t.map PyData.int).any fun z => PyData.eqv z (.int a)) = t.contains a := by
  induction t with
  | nil => rfl
  | cons x t ih =>
    rw [List.map_cons, List.any_cons, ih, List.contains_cons]
    congr 1
    have : PyData.eqv (.int x) (.int a) = decide (x = a) := by
      simp [PyData.eqv]
      by_cases h : x = a <;> simp [h]
    rw [this]
    by_cases h : x = a
    · simp [h]
    · have h' : ¬ a = x := fun e => h e.symm
      simp [h, h']
end
end Dn
/-! Dn part 45: tuple * int, also once and never. -/
namespace Dn
open PySem PySem.Spec PyProof.Rows L2
theorem tuple_mul1 (l : Addr) (items : Array Value) (n : Nat) (dd : Option Addr) (sl : Array (Option Value)) (x : Int) (u : Tok) (c0 : (decide (x < -(2 ^ 63)) || decide (x ≥ 2 ^ 63)) = false) (c1 : (items.isEmpty || x == 1) = true) :
    Meets (Builtin.«tuple.__mul__» ⟨[.ref l, .int x u], []⟩) (fun _ R s => s.heap.get? l = some { cls := .type "tuple", dict := dd, data := .seq items n, slots := sl } ∧ R (.ok (.ret (Value.ref l))) s) :=
  .of_wp fun prog w A R s h => by
    obtain ⟨hp, g, d, tk, os⟩ := s
    obtain ⟨hl, h⟩ := h
    have f1 := AutoSeq1.idx_int
    wp_walk using wpAny_loadPart' hl
    repeat (first
      | (refine wpAny_ite_false (decide_eq_false (by rw [c0]; exact Bool.false_ne_true)) ?_; wp_walk using wpAny_loadPart' hl)
      | (refine wpAny_ite_true (decide_eq_true (by rw [c1])) ?_; wp_walk using wpAny_loadPart' hl))
    exact ⟨_, rfl, h⟩
theorem tuple_mul0 (l : Addr) (items : Array Value) (n : Nat) (dd : Option Addr) (sl : Array (Option Value)) (x : Int) (u : Tok) (c0 : (decide (x < -(2 ^ 63)) || decide (x ≥ 2 ^ 63)) = false) (c1 : (items.isEmpty || x == 1) = false) (c2 : (decide (x ≤ 0) || items.isEmpty) = true) :
    Meets (Builtin.«tuple.__mul__» ⟨[.ref l, .int x u], []⟩) (fun _ R s => s.heap.get? l = some { cls := .type "tuple", dict := dd, data := .seq items n, slots := sl } ∧
      R (.ok (.ret (Value.ref s.heap.objs.size))) { s with heap := s.heap.push { cls := Value.type "tuple", data := Data.seq #[] }, toks := s.toks }) :=
  .of_wp fun prog w A R s h => by
    obtain ⟨hp, g, d, tk, os⟩ := s
    obtain ⟨hl, h⟩ := h
    have f1 := AutoSeq1.idx_int
    wp_walk using wpAny_loadPart' hl
    repeat (first
      | (refine wpAny_ite_false (decide_eq_false (by rw [c0]; exact Bool.false_ne_true)) ?_; wp_walk using wpAny_loadPart' hl)
      | (refine wpAny_ite_false (decide_eq_false (by rw [c1]; exact Bool.false_ne_true)) ?_; wp_walk using wpAny_loadPart' hl)
      | (refine wpAny_ite_true (decide_eq_true (by rw [c2])) ?_; wp_walk using wpAny_loadPart' hl))
    exact ⟨_, rfl, h⟩
section
variable {X : Cx}
/-- a tuple once: itself; never: the empty one -/
def rRepN (K : PySem.W.Frag) : R2 := fun x y H Q => ∃ l k xs, x = .ref l ∧ y = .int k ∧ SqT K H l xs ∧ xs ≠ [] ∧ ((k = 1 ∧ Q (.ref l) H) ∨ (k ≤ 0 ∧ -1000 ≤ k ∧ ∀ p, H p = none → Q (.ref p) (upd H p (.tup []))))
theorem op_repN : OpR X (binaryOp .Mult) (rRepN X.K) := by
  intro pins s σ H x y v u Q I rx ry h
  obtain ⟨l, k, xs, rfl, rfl, hT, hne, q⟩ := h
  cases rx
  obtain ⟨t, rfl⟩ := ry
  obtain ⟨its, r, ⟨⟨cls, dd, data, sl⟩, ho, hc, n, hd⟩, hs⟩ := I.tuple hT
  simp only at hc hd
  subst hc hd
  have hle : its.length = xs.length := r.length.symm
  have hn : its ≠ [] := fun e => hne (by
    rw [e] at hle
    exact List.eq_nil_of_length_eq_zero hle.symm)
  have hi : its.toArray.isEmpty = false := by
    cases its with
    | nil => exact absurd rfl hn
    | cons a b => rfl
  rcases q with ⟨hk, q⟩ | ⟨hk, hk2, q⟩
  · have c0 : (decide (k < -(2 ^ 63)) || decide (k ≥ 2 ^ 63)) = false := by
      rw [decide_eq_false (by omega), decide_eq_false (by omega)] <;> rfl
    have c1 : (its.toArray.isEmpty || k == 1) = true := by
      rw [hi, Bool.false_or, hk]; rfl
    refine wpAny_binaryOp_repeat_ref (T := "tuple") (U := "int") (by decide) ⟨_, ho, rfl⟩ (fun s' => typeIs_int s' k t) noFill_tuple_mul F.fills_int_mul F.slot_int_rmul repeat_tuple F.slot_int_index.lookup
      (call_meets F.slot_int_rmul (typeIs_int s k t) F.entry_int_rmul (F.args_int_rmul_2 _ _) (int_rmul_tuple k t l its.toArray n dd sl)
        ⟨ho, rfl, ⟨_, ho, rfl⟩, call_meets F.slot_tuple_mul ⟨_, ho, rfl⟩ F.entry_tuple_mul (F.args_tuple_mul_2 _ _) (tuple_mul1 l its.toArray n dd sl k t c0 c1) ⟨ho, ?_⟩⟩)
    exact ⟨.ref l, H, I, rfl, q⟩
  · have c0 : (decide (k < -(2 ^ 63)) || decide (k ≥ 2 ^ 63)) = false := by
      rw [decide_eq_false (by omega), decide_eq_false (by omega)] <;> rfl
    have c1 : (its.toArray.isEmpty || k == 1) = false := by
      rw [hi, Bool.false_or]
      exact beq_eq_false_iff_ne.mpr (by omega)
    have c2 : (decide (k ≤ 0) || its.toArray.isEmpty) = true := by
      rw [decide_eq_true hk]; rfl
    refine wpAny_binaryOp_repeat_ref (T := "tuple") (U := "int") (by decide) ⟨_, ho, rfl⟩ (fun s' => typeIs_int s' k t) noFill_tuple_mul F.fills_int_mul F.slot_int_rmul repeat_tuple F.slot_int_index.lookup
      (call_meets F.slot_int_rmul (typeIs_int s k t) F.entry_int_rmul (F.args_int_rmul_2 _ _) (int_rmul_tuple k t l its.toArray n dd sl)
        ⟨ho, rfl, ⟨_, ho, rfl⟩, call_meets F.slot_tuple_mul ⟨_, ho, rfl⟩ F.entry_tuple_mul (F.args_tuple_mul_2 _ _) (tuple_mul0 l its.toArray n dd sl k t c0 c1 c2) ⟨ho, ?_⟩⟩)
    refine ⟨.ref s.heap.objs.size, _, I.laid (t' := s.toks) (o := .tup []) (fun b ob q => Heap.get?_push_of_some _ q) (Nat.le_refl _) ?_, rfl, q _ (I.hok.fresh (Nat.le_refl _))⟩
    exact ⟨Nat.zero_le _, [], .nil, IsTup.new _ _⟩
/-- x * y, also of a tuple once or never -/
def mulT : G2 := fun x y η => match x, y with
  | .tup xs, .int j => if 0 < xs.length ∧ j = 1 then some (.tup xs, η) else if 0 < xs.length ∧ j ≤ 0 ∧ -1000 ≤ j then some (.tup [], η) else mulD x y η
  | _, _ => mulD x y η
theorem opT_mul : OpR X (binaryOp .Mult) (rd2 X.K mulT) := by
  intro pins s σ H x y v u Q I rx ry ⟨w, η, d1, d2, hr, r1, r2, p⟩
  unfold mulT at p
  split at p
  case h_2 => exact opD_mul pins s σ H x y v u Q I rx ry ⟨w, η, d1, d2, hr, r1, r2, p⟩
  rename_i xs j
  split at p
  · rename_i c
    cases r2
    cases r1 with | tup hs q0 => ?_
    refine op_repN pins s σ H _ _ v u Q I rx ry ⟨_, j, _, rfl, rfl, hs.sq, fun e => ?_, .inl ⟨c.2, p _ w H .refl hr (.tup hs q0)⟩⟩
    subst e
    cases q0
    exact absurd c.1 (by simp)
  · split at p
    · rename_i c
      cases r2
      cases r1 with | tup hs q0 => ?_
      refine op_repN pins s σ H _ _ v u Q I rx ry ⟨_, j, _, rfl, rfl, hs.sq, fun e => ?_, .inr ⟨c.2.1, c.2.2, fun b hb => tup_of p hr .nil hb⟩⟩
      subst e
      cases q0
      exact absurd c.1 (by simp)
    · exact opD_mul pins s σ H x y v u Q I rx ry ⟨w, η, _, _, hr, r1, r2, p⟩
/-- a tuple with items, n times -/
theorem mulT_tup {η : Store} {xs : List D} {n : Nat} (h0 : 0 < xs.length) (h1 : xs.length ≤ 1000) (hn : n ≤ 1000) : mulT (.tup xs) (.int n) η = some (.tup (List.replicate n xs).flatten, η) := by
  unfold mulT
  dsimp only
  match n with
  | 0 => rw [if_neg (by omega), if_pos ⟨h0, by omega, by omega⟩]; rfl
  | 1 => rw [if_pos ⟨h0, by omega⟩]; simp
  | k + 2 =>
    rw [if_neg (by omega), if_neg (by omega)]
    unfold mulD
    dsimp only
    rw [if_pos ⟨h0, by omega, by omega, h1⟩]
    rfl
end
end Dn
/-! Dn part 46: t[::-1] of a tuple. -/
namespace Dn
open PySem PySem.Spec PyProof.Rows L2
section
variable {prog : Program} {wd : World} {A : Around} {E : Value → Shared → Prop} {s : Shared}
theorem adjust_rev (n : Nat) : Builtin.Slice.sliceAdjust none none (-1) (n : Int) = ((n : Int) - 1, -1) := rfl
theorem places_rev (n : Nat) : Builtin.Slice.slicePlaces ((n : Int) - 1) (-1) (-1) = n := by
  unfold Builtin.Slice.slicePlaces
  have h1 : ¬ ((-1 : Int) > 0) := by decide
  rw [if_neg h1, show (- -1 : Int) = 1 by decide, Int.ediv_one]
  split <;> omega
theorem pick_rev (its : List Value) : ((List.range its.length).filterMap fun (m : Nat) => its.toArray[(((its.length : Int) - 1) + (m : Int) * (-1)).toNat]?).toArray = its.reverse.toArray := by
  congr 1
  refine List.ext_getElem? fun i => ?_
  have e : ((List.range its.length).filterMap fun (m : Nat) => its.toArray[(((its.length : Int) - 1) + (m : Int) * (-1)).toNat]?) = (List.range its.length).map fun m => its.getD (its.length - 1 - m) Value.none := by
    have gen : ∀ l : List Nat, (∀ m ∈ l, m < its.length) → (l.filterMap fun (m : Nat) => its.toArray[(((its.length : Int) - 1) + (m : Int) * (-1)).toNat]?) = l.map fun m => its.getD (its.length - 1 - m) Value.none := by
      intro l hl
      induction l with
      | nil => rfl
      | cons m l ih =>
        have h := hl m List.mem_cons_self
        have e1 : (((its.length : Int) - 1) + (m : Int) * (-1)).toNat = its.length - 1 - m := by omega
        have hl2 : its.length - 1 - m < its.length := by omega
        rw [List.map_cons, ← ih fun q hq => hl q (List.mem_cons_of_mem _ hq)]
        have e2 : its.toArray[(((its.length : Int) - 1) + (m : Int) * (-1)).toNat]? = some (its.getD (its.length - 1 - m) Value.none) := by
          rw [e1]
          simp [hl2]
        exact List.filterMap_cons_some e2
    exact gen _ fun m hm => List.mem_range.mp hm
  rw [e, List.getElem?_map]
  by_cases hi : i < its.length
  · rw [List.getElem?_range hi, List.getElem?_reverse hi]
    have hl : its.length - 1 - i < its.length := by omega
    simp [hl]
  · rw [List.getElem?_eq_none (by simp; omega), List.getElem?_eq_none (by simp; omega)]
    rfl
theorem getItem_tuple_rev {t sl : Addr} {its : List Value} {u : Tok} {Q : Value → Shared → Prop} (ht : IsTup s.heap t its.toArray) (hs : s.heap.IsSliceOf sl .none .none (.int (-1) u))
    (h : Q (.ref s.heap.objs.size) { s with heap := s.heap.push { cls := .type "tuple", data := .seq its.reverse.toArray } }) (hsz : its.length ≤ sizeLine) : wpAny (model prog wd) A (getItem (.ref t) (.ref sl)) Q E s := by
  have hok : sizeOk (.seq its.reverse.toArray) := by
    show its.reverse.toArray.size ≤ sizeLine
    rw [List.size_toArray, List.length_reverse]; exact hsz
  obtain ⟨os, hos, hcs, hds⟩ := id hs
  have hTs : s.TypeIs (.ref sl) "slice" := ⟨os, hos, hcs⟩
  unfold getItem
  try with_reducible refine wpAny_holding ?_
  first | refine wpAny_bind (wpAny_pure ?_) | skip
  refine wpAny_bind (wpAny_sequenceKey ht.typeIs (by decide) ?_)
  refine wpAny_bind (wpAny_callSpecial?_slot (name := Str.ofString "__getitem__") ht.typeIs PyProof.Rows.slot_tuple_getitem
    (wpAny_call_entry PyProof.Rows.slot_tuple_getitem ht.typeIs entry_tuple_getitem ?_ (args_tuple_getitem _ _)))
  show wpAny _ _ (Builtin.Tuple.tupleItemsOf (.ref t) >>= _) _ _ s
  refine wpAny_bind (tupleItemsOf_ ht ?_)
  refine wpAny_bind (wpAny_typeOf hTs ?_)
  rw [if_pos (by decide)]
  have e0 : its.toArray.size = its.length := by simp
  refine wpAny_bind ?_
  · unfold Builtin.Slice.sliceApplied Builtin.Slice.sliceFields
    refine wpAny_bind (wpAny_bind (wpAny_field hos hds (x := .none) rfl (wpAny_bind (wpAny_field hos hds (x := .none) rfl (wpAny_bind (wpAny_field hos hds (x := .int (-1) u) rfl (wpAny_pure ?_)))))))
    refine wpAny_bind (PyProof.Rows.slicePart_int ?_)
    show wpAny _ _ (if ((-1 : Int) == 0) = true then _ else _) _ _ s
    rw [if_neg (by decide)]
    refine wpAny_bind (PyProof.Rows.slicePart_none (wpAny_bind (PyProof.Rows.slicePart_none (wpAny_bind (wpAny_pure ?_)))))
    rw [e0]
    show wpAny _ _ (match Builtin.Slice.sliceAdjust none none (-1) (its.length : Int) with | (lo, hi) => pure (lo, (-1 : Int), Builtin.Slice.slicePlaces lo hi (-1))) _ _ s
    rw [adjust_rev]
    show wpAny _ _ (pure ((its.length : Int) - 1, (-1 : Int), Builtin.Slice.slicePlaces ((its.length : Int) - 1) (-1) (-1))) _ _ s
    rw [places_rev]
    refine wpAny_pure ?_
    have hno : ¬ ((((its.length : Int) - 1) == 0 && (-1 : Int) == 1 && its.length == its.toArray.size) = true) := by simp
    show wpAny _ _ (if (((its.length : Int) - 1) == 0 && (-1 : Int) == 1 && its.length == its.toArray.size) = true then _ else _) _ _ s
    rw [if_neg hno, pick_rev]
    first
      | exact wpAny_bind (m := Builtin.Tuple.tupleExact _) (wpAny_newObj_type (wpAny_pure ⟨_, rfl, wpAny_pure h⟩) hok)
      | exact wpAny_bind (m := Builtin.Tuple.tupleExact _) (wpAny_newObj_type (wpAny_bind (wpAny_pure (wpAny_pure ⟨_, rfl, wpAny_pure h⟩))) hok)
      | exact wpAny_bind (wpAny_bind (m := Builtin.Tuple.tupleExact _) (wpAny_newObj_type (wpAny_pure (wpAny_pure ⟨_, rfl, wpAny_pure h⟩)) hok))
      | exact wpAny_bind (wpAny_bind (m := Builtin.Tuple.tupleExact _) (wpAny_newObj_type (wpAny_pure ⟨_, rfl, wpAny_pure h⟩) hok))
end
section
variable {X : Cx} {W : WX} {K : PySem.W.Frag} {w w1 w' : Wd} {σ : L2.St} {H H1 H' : Hp} {ρ : Env} {η η1 η' : Store} {a : Addr} {e : Expr} {f : FE} {pos : Pos}
def tRevA (K : PySem.W.Frag) (te : TE) : TE := fun σ H Q => te σ H fun x H1 => ∃ a xs, x = .ref a ∧ SqT K H1 a xs ∧ ∀ p, H1 p = none → Q (.ref p) (upd H1 p (.tup xs.reverse))
theorem pe_revA {te : TE} {k : Nat} {p1 p2 p3 : Pos} (he : PE X e te) : PE X (.Subscript e (.Slice none none (some (.UnaryOp .USub (.Constant (.int 1) k p1) p2)) p3) pos) (tRevA X.K te) := by
  refine ⟨fun pins s σ H Q I h => ?_⟩
  refine Subscript_ (thn (he.run pins s σ H _ I h) fun v s1 ⟨x, H1, I1, r1, q1⟩ => ?_)
  obtain ⟨a, xs, ex, hx, q⟩ := q1
  subst ex
  cases r1
  have hst : PO X (some (.UnaryOp .USub (.Constant (.int 1) k p1) p2)) (tPart (tUn (rU fun i => .int (-i)) (tC (.int 1)))) := po_some (pe_un un_neg pe_int)
  refine wpAny_Slice (thn (po_none.run pins s1 σ H1 (fun o H2 => o = none ∧ H2 = H1) I1 ⟨rfl, rfl⟩) fun vl s2 ⟨l, H2, I2, pl, el, e2⟩ => ?_)
  subst el e2
  refine thn (po_none.run pins s2 σ H2 (fun o H3 => o = none ∧ H3 = H2) I2 ⟨rfl, rfl⟩) fun vu s3 ⟨u, H3, I3, pu, eu, e3⟩ => ?_
  subst eu e3
  refine thn (hst.run pins s3 σ H3 (fun o H4 => o = some (-1) ∧ H4 = H3) I3 ⟨1, rfl, -1, rfl, rfl, rfl⟩) fun vs s4 ⟨o, H4, I4, ps, eo, e4⟩ => ?_
  subst eo e4
  cases pl
  cases pu
  obtain ⟨tk, rfl⟩ : ∃ tk, vs = Value.int (-1) tk := by
    cases ps with | int i t => exact ⟨t, rfl⟩
  have I5 : Inv X pins σ H4 { s4 with heap := s4.heap.push { cls := .type "slice", data := .fields #[Value.none, Value.none, .int (-1) tk] } } := I4.kept (t' := s4.toks) fun b ob q => Heap.get?_push_of_some _ q
  obtain ⟨its, r, ht, hz⟩ := I5.tuple hx
  have hlen := r.length
  show wpAny (model X.prog X.w) X.A (subscriptTail e (.Slice none none (some (.UnaryOp .USub (.Constant (.int 1) k p1) p2)) p3) (.ref a) (.ref s4.heap.objs.size)) (EP X pins σ Q) X.xe { s4 with heap := s4.heap.push { cls := .type "slice", data := .fields #[Value.none, Value.none, .int (-1) tk] } }
  refine tail_any (ops := [.ref a, .ref s4.heap.objs.size]) ht.typeIs (PyProof.Rows.slot_tuple_getitem.lookup) ?_ (by with_unfolding_all rfl)
  refine getItem_tuple_rev ht (Heap.IsSliceOf.new _ _ _ _) ?_ (by omega)
  refine ⟨.ref _, _, I5.laid (t' := s4.toks) (o := .tup xs.reverse) (fun b ob q => Heap.get?_push_of_some _ q) (Nat.le_refl _) ?_, rfl, q _ (I5.hok.fresh (Nat.le_refl _))⟩
  exact ⟨by rw [List.length_reverse]; exact hz, _, r.reverse, IsTup.new _ _⟩
def revA : G1 := fun x η => match x with
  | .tup xs => some (.tup xs.reverse, η)
  | _ => none
theorem de_revA {k : Nat} {p1 p2 p3 : Pos} (he : DE X W e f) : DE X W (.Subscript e (.Slice none none (some (.UnaryOp .USub (.Constant (.int 1) k p1) p2)) p3) pos) (e1 revA f) :=
  PE.imp (pe_revA he) fun σ H Q ⟨w, ρ, η, rel, p⟩ => by
    refine (rdE_then rel p).imp fun v H1 ⟨w1, d, η1, e, rel1, rv, p1⟩ => ?_
    cases eg : revA d η1 with
    | none => rw [eg] at p1; exact p1.elim
    | some zη =>
      obtain ⟨z, η'⟩ := zη
      rw [eg] at p1
      unfold revA at eg
      split at eg
      · cases eg
        cases rv with | tup hs q => ?_
        exact ⟨_, _, rfl, hs.sq, fun p hp => tup_of (fun v w' H' e' hr' r' => p1 v w' H' e' hr' r') rel1.heap q.reverse hp⟩
      · cases eg
end
end Dn
/-! k97: queues, in plain Lean. -/
namespace N97
abbrev T := List Int
def addL (a b : T) : T := (a.zip b).map fun p => p.1 + p.2
def subL (a b : T) : T := (a.zip b).map fun p => p.1 - p.2
def sumIn (c h : T) : Int := ((c.zip h).map fun p => p.1 * p.2).sum
def rg (n : Int) : List Int := (List.range n.toNat).map fun (i : Nat) => (i : Int)
/-! ### the program's way -/
def stepC (v m : Int) (f : List (T × Int)) : List (T × Int) := f.flatMap fun x => (rg (min m (x.2 / v) + 1)).map fun s => (x.1 ++ [s], x.2 - s * v)
def runC : List (Int × Int) → List (T × Int) → List (T × Int)
  | [], f => f
  | p :: r, f => runC r (stepC p.1 p.2 f)
def chg (c t : T) (a : Int) : List T := ((runC (c.zip t) [([], a)]).filter fun x => decide (x.2 = 0)).map (·.1)
abbrev Lay := List (T × Option (T × T))
def has (l : Lay) (k : T) : Bool := l.any fun q => decide (q.1 = k)
def put (l : Lay) (k : T) (v : T × T) : Lay := if has l k = true then l else l ++ [(k, some v)]
def addAll (now full : T) : List T → Lay → Lay
  | [], l => l
  | c :: r, l => addAll now full r (put l (subL full c) (now, c))
def layF (c : T) (p : Int) (g : T) : List T → Lay → Lay
  | [], l => l
  | now :: r, l => layF c p g r (addAll now (addL now g) (chg c (addL now g) (sumIn c g - p)) l)
def keys (l : Lay) : List T := l.map (·.1)
abbrev Pay := Int × T
def goF (c : T) : List Pay → Lay → List Lay → List Lay
  | [], _, acc => acc
  | p :: r, last, acc => if layF c p.1 p.2 (keys last) [] = [] then acc else goF c r (layF c p.1 p.2 (keys last) []) (acc ++ [layF c p.1 p.2 (keys last) []])
def layersF (c till : T) (ps : List Pay) : List Lay := goF c ps [(till, none)] [[(till, none)]]
/-! ### the law's way -/
def heapStep (m : Int) (f : List T) : List T := f.flatMap fun h => (rg (m + 1)).map fun s => h ++ [s]
def heapsF : T → List T → List T
  | [], f => f
  | m :: r, f => heapsF r (heapStep m f)
def good (c full : T) (a : Int) : List T := (heapsF full [[]]).filter fun h => decide (sumIn c h = a)
def ded : List T → List T → List T
  | acc, [] => acc
  | acc, k :: r => ded (if k ∈ acc then acc else acc ++ [k]) r
def laterF (c : T) (p : Int) (g : T) : List T → List T → List T
  | [], acc => acc
  | now :: r, acc => laterF c p g r (ded acc (ded [] ((good c (addL now g) (sumIn c g - p)).map (subL (addL now g)))))
def rowsF (srt : List T → List T) (c : T) : List Pay → List T → List (List T) → List (List T)
  | [], _, acc => acc
  | p :: r, last, acc => rowsF srt c r (srt (laterF c p.1 p.2 last [])) (acc ++ [srt (laterF c p.1 p.2 last [])])
def servedL (srt : List T → List T) (c till : T) (ps : List Pay) : Int := (((rowsF srt c ps [till] [[till]]).filter fun r => decide (r ≠ [])).length : Int) - 1
/-! ### orders -/
def ordStep (many : Int) (f : List T) : List T := f.flatMap fun o => ((rg many).filter fun a => !(o.contains a)).map fun a => o ++ [a]
def ordsN (many : Int) : Nat → List T
  | 0 => [[]]
  | n + 1 => ordStep many (ordsN many n)
def inOrd (ps : List Pay) (o : T) : List Pay := o.map fun i => ps.getD i.toNat (0, [])
/-! ### changes and heaps -/
theorem mem_rg {n x : Int} : x ∈ rg n ↔ 0 ≤ x ∧ x < n := by
  unfold rg
  rw [List.mem_map]
  constructor
  · rintro ⟨i, hi, rfl⟩
    have := List.mem_range.mp hi
    omega
  · rintro ⟨h1, h2⟩
    exact ⟨x.toNat, List.mem_range.mpr (by omega), by omega⟩
/-- 0 ≤ s, each at most t's -/
def In : T → T → Prop
  | [], [] => True
  | m :: t, s :: h => 0 ≤ s ∧ s ≤ m ∧ In t h
  | _, _ => False
theorem mem_heaps : ∀ {t : T} {f : List T} {x : T}, x ∈ heapsF t f ↔ ∃ h ∈ f, ∃ s, In t s ∧ x = h ++ s
  | [], f, x => by
    unfold heapsF
    constructor
    · exact fun h => ⟨x, h, [], trivial, by simp⟩
    · rintro ⟨h, hf, s, hs, rfl⟩
      cases s with
      | nil => simpa using hf
      | cons _ _ => exact hs.elim
  | m :: t, f, x => by
    unfold heapsF
    rw [mem_heaps]
    unfold heapStep
    constructor
    · rintro ⟨h, hh, s, hs, rfl⟩
      obtain ⟨h0, hf, h2⟩ := List.mem_flatMap.mp hh
      obtain ⟨y, hy, rfl⟩ := List.mem_map.mp h2
      have := mem_rg.mp hy
      exact ⟨h0, hf, y :: s, ⟨this.1, by omega, hs⟩, by simp⟩
    · rintro ⟨h, hf, s, hs, rfl⟩
      cases s with
      | nil => exact hs.elim
      | cons y s =>
        obtain ⟨a, b, d⟩ := hs
        exact ⟨h ++ [y], List.mem_flatMap.mpr ⟨h, hf, List.mem_map.mpr ⟨y, mem_rg.mpr ⟨a, by omega⟩, rfl⟩⟩, s, d, by simp⟩
theorem sumIn_cons (v s : Int) (c h : T) : sumIn (v :: c) (s :: h) = v * s + sumIn c h := by
  unfold sumIn; simp
theorem sumIn_nonneg : ∀ {c t h : T}, (∀ v ∈ c, 0 < v) → In t h → 0 ≤ sumIn c h
  | [], _, h, _, _ => by unfold sumIn; simp
  | v :: c, [], [], _, _ => by unfold sumIn; simp
  | v :: c, m :: t, s :: h, hc, hi => by
    rw [sumIn_cons]
    have h1 := sumIn_nonneg (c := c) (t := t) (h := h) (fun x hx => hc x (List.mem_cons_of_mem _ hx)) hi.2.2
    have h2 := Int.mul_nonneg (Int.le_of_lt (hc v List.mem_cons_self)) hi.1
    omega
  | v :: c, [], _ :: _, _, hi => hi.elim
  | v :: c, _ :: _, [], _, hi => hi.elim
/-- the members of the program's list -/
theorem mem_runC : ∀ {c t : T} {f : List (T × Int)} {x : T} {l : Int}, (∀ v ∈ c, 0 < v) → c.length = t.length → (∀ y ∈ f, 0 ≤ y.2) →
    ((x, l) ∈ runC (c.zip t) f ↔ ∃ h k, (h, k) ∈ f ∧ ∃ s, In t s ∧ x = h ++ s ∧ l = k - sumIn c s ∧ 0 ≤ l)
  | [], [], f, x, l, _, _, hf => by
    show (x, l) ∈ f ↔ _
    constructor
    · exact fun h => ⟨x, l, h, [], trivial, by simp, by unfold sumIn; simp, hf _ h⟩
    · rintro ⟨h, k, hf, s, hs, rfl, rfl, _⟩
      cases s with
      | nil => unfold sumIn; simpa using hf
      | cons _ _ => exact hs.elim
  | v :: c, m :: t, f, x, l, hc, hl, hf => by
    show (x, l) ∈ runC (c.zip t) (stepC v m f) ↔ _
    have hv := hc v List.mem_cons_self
    have hc' : ∀ v ∈ c, 0 < v := fun y hy => hc y (List.mem_cons_of_mem _ hy)
    have step : ∀ h k, (h, k) ∈ stepC v m f ↔ ∃ h0 k0 s, (h0, k0) ∈ f ∧ 0 ≤ s ∧ s ≤ m ∧ h = h0 ++ [s] ∧ k = k0 - s * v ∧ 0 ≤ k := by
      intro h k
      unfold stepC
      rw [List.mem_flatMap]
      constructor
      · rintro ⟨⟨h0, k0⟩, hm, h2⟩
        obtain ⟨s, hs, e⟩ := List.mem_map.mp h2
        cases e
        have h3 := mem_rg.mp hs
        have h4 : s ≤ k0 / v := by
          have := Int.min_le_right m (k0 / v)
          dsimp only at h3
          omega
        have h5 := (Int.le_ediv_iff_mul_le hv).mp h4
        have := Int.min_le_left m (k0 / v)
        dsimp only at h3
        exact ⟨h0, k0, s, hm, h3.1, by omega, rfl, rfl, by dsimp only; omega⟩
      · rintro ⟨h0, k0, s, hm, h1, h2, rfl, rfl, h3⟩
        refine ⟨(h0, k0), hm, List.mem_map.mpr ⟨s, mem_rg.mpr ⟨h1, ?_⟩, rfl⟩⟩
        have h4 : s ≤ k0 / v := (Int.le_ediv_iff_mul_le hv).mpr (by omega)
        have : s ≤ min m (k0 / v) := Int.le_min.mpr ⟨h2, h4⟩
        dsimp only
        omega
    rw [mem_runC hc' (by simpa using hl) (fun y hy => ((step y.1 y.2).mp hy).elim fun _ ⟨_, _, _, _, _, _, _, q⟩ => q)]
    constructor
    · rintro ⟨h, k, hm, s, hs, rfl, rfl, h0⟩
      obtain ⟨h1, k1, y, hf1, a, b, rfl, rfl, _⟩ := (step h k).mp hm
      refine ⟨h1, k1, hf1, y :: s, ⟨a, b, hs⟩, by simp, ?_, h0⟩
      rw [sumIn_cons, Int.mul_comm]; omega
    · rintro ⟨h, k, hm, s, hs, rfl, rfl, h0⟩
      cases s with
      | nil => exact hs.elim
      | cons y s =>
        obtain ⟨a, b, d⟩ := hs
        rw [sumIn_cons] at h0 ⊢
        have := sumIn_nonneg hc' d
        have e := Int.mul_comm v y
        refine ⟨h ++ [y], k - y * v, (step _ _).mpr ⟨h, k, y, hm, a, b, rfl, rfl, by omega⟩, s, d, by simp, by omega, by omega⟩
  | [], _ :: _, _, _, _, _, hl, _ => by simp at hl
  | _ :: _, [], _, _, _, _, hl, _ => by simp at hl
theorem mem_chg {c t : T} {a : Int} (hc : ∀ v ∈ c, 0 < v) (hl : c.length = t.length) (ha : 0 ≤ a) {h : T} : h ∈ chg c t a ↔ In t h ∧ sumIn c h = a := by
  unfold chg
  rw [List.mem_map]
  constructor
  · rintro ⟨⟨x, l⟩, hm, rfl⟩
    obtain ⟨h1, h2⟩ := List.mem_filter.mp hm
    obtain ⟨h0, k, hf, s, hs, rfl, rfl, _⟩ := (mem_runC hc hl (by simpa using ha)).mp h1
    simp at hf
    obtain ⟨rfl, rfl⟩ := hf
    have := of_decide_eq_true h2
    dsimp only at this
    refine ⟨by simpa using hs, ?_⟩
    dsimp only
    rw [List.nil_append]
    omega
  · rintro ⟨h1, h2⟩
    refine ⟨(h, 0), List.mem_filter.mpr ⟨(mem_runC hc hl (by simpa using ha)).mpr ⟨[], a, by simp, h, h1, by simp, by omega, by omega⟩, by simp⟩, rfl⟩
theorem mem_good {c t : T} {a : Int} {h : T} : h ∈ good c t a ↔ In t h ∧ sumIn c h = a := by
  unfold good
  rw [List.mem_filter, mem_heaps]
  constructor
  · rintro ⟨⟨x, hx, s, hs, rfl⟩, h2⟩
    simp at hx
    subst hx
    exact ⟨by simpa using hs, by simpa using h2⟩
  · rintro ⟨h1, h2⟩
    exact ⟨⟨[], by simp, h, h1, by simp⟩, by simpa using h2⟩
theorem step_nonneg {v m : Int} {f : List (T × Int)} (hv : 0 < v) (hf : ∀ y ∈ f, 0 ≤ y.2) : ∀ y ∈ stepC v m f, 0 ≤ y.2 := by
  intro y hy
  unfold stepC at hy
  obtain ⟨x, hx, h⟩ := List.mem_flatMap.mp hy
  obtain ⟨s, hs, rfl⟩ := List.mem_map.mp h
  have h3 := mem_rg.mp hs
  have h4 : s ≤ x.2 / v := by
    have := Int.min_le_right m (x.2 / v)
    omega
  have h5 := (Int.le_ediv_iff_mul_le hv).mp h4
  show 0 ≤ x.2 - s * v
  omega
theorem rg_len {n : Int} : (rg n).length = n.toNat := by unfold rg; simp
theorem step_len {v m : Int} {N : Nat} (hm : m < N) : ∀ f : List (T × Int), (stepC v m f).length ≤ f.length * N
  | [] => by simp [stepC]
  | x :: f => by
    have ih := step_len (v := v) hm f
    unfold stepC at ih ⊢
    rw [List.flatMap_cons, List.length_append, List.length_map, rg_len, List.length_cons, Nat.add_mul, Nat.one_mul]
    have := Int.min_le_left m (x.2 / v)
    omega
theorem step_app {v m : Int} (f g : List (T × Int)) : stepC v m (f ++ g) = stepC v m f ++ stepC v m g := by
  unfold stepC; rw [List.flatMap_append]
theorem step_one {v m : Int} (x : T × Int) : stepC v m [x] = (rg (min m (x.2 / v) + 1)).map fun s => (x.1 ++ [s], x.2 - s * v) := by
  unfold stepC; simp
theorem run_len {N : Nat} : ∀ (z : List (Int × Int)) (f : List (T × Int)), (∀ p ∈ z, p.2 < N) → (runC z f).length ≤ f.length * N ^ z.length
  | [], f, _ => by simp [runC]
  | p :: z, f, h => by
    have h1 := run_len z (stepC p.1 p.2 f) fun q hq => h q (List.mem_cons_of_mem _ hq)
    have h2 := step_len (v := p.1) (h p List.mem_cons_self) f
    unfold runC
    rw [List.length_cons, Nat.pow_succ, Nat.mul_comm (N ^ z.length), ← Nat.mul_assoc]
    exact Nat.le_trans h1 (Nat.mul_le_mul_right _ h2)
/-! ### the layers' keys, the rows -/
theorem has_iff {l : Lay} {k : T} : has l k = true ↔ k ∈ keys l := by
  unfold has keys
  simp
theorem mem_put {l : Lay} {k : T} {v : T × T} {x : T} : x ∈ keys (put l k v) ↔ x ∈ keys l ∨ x = k := by
  unfold put
  by_cases h : has l k = true
  · rw [if_pos h]
    have := has_iff.mp h
    constructor
    · exact .inl
    · rintro (q | rfl)
      · exact q
      · exact this
  · rw [if_neg h]
    simp [keys]
theorem nodup_put {l : Lay} {k : T} {v : T × T} (hn : (keys l).Nodup) : (keys (put l k v)).Nodup := by
  unfold put
  by_cases h : has l k = true
  · rw [if_pos h]; exact hn
  · rw [if_neg h]
    have h2 : k ∉ keys l := fun q => h (has_iff.mpr q)
    show (List.map (·.1) (l ++ [(k, some v)])).Nodup
    rw [List.map_append]
    refine List.nodup_append.mpr ⟨hn, by simp, fun a ha b hb e => ?_⟩
    simp at hb
    subst hb e
    exact h2 ha
theorem mem_addAll {now full : T} : ∀ {cs : List T} {l : Lay} {x : T}, x ∈ keys (addAll now full cs l) ↔ x ∈ keys l ∨ ∃ h ∈ cs, x = subL full h
  | [], l, x => by simp [addAll]
  | c :: r, l, x => by
    unfold addAll
    rw [mem_addAll, mem_put]
    simp [or_assoc]
theorem nodup_addAll {now full : T} : ∀ {cs : List T} {l : Lay}, (keys l).Nodup → (keys (addAll now full cs l)).Nodup
  | [], l, h => h
  | c :: r, l, h => nodup_addAll (cs := r) (nodup_put h)
theorem mem_layF {c : T} {p : Int} {g : T} : ∀ {prev : List T} {l : Lay} {x : T}, x ∈ keys (layF c p g prev l) ↔ x ∈ keys l ∨ ∃ now ∈ prev, ∃ h ∈ chg c (addL now g) (sumIn c g - p), x = subL (addL now g) h
  | [], l, x => by simp [layF]
  | now :: r, l, x => by
    unfold layF
    rw [mem_layF, mem_addAll]
    simp [or_assoc]
theorem nodup_layF {c : T} {p : Int} {g : T} : ∀ {prev : List T} {l : Lay}, (keys l).Nodup → (keys (layF c p g prev l)).Nodup
  | [], l, h => h
  | now :: r, l, h => nodup_layF (prev := r) (nodup_addAll h)
theorem mem_ded : ∀ {ks acc : List T} {x : T}, x ∈ ded acc ks ↔ x ∈ acc ∨ x ∈ ks
  | [], acc, x => by simp [ded]
  | k :: r, acc, x => by
    unfold ded
    rw [mem_ded]
    by_cases h : k ∈ acc
    · rw [if_pos h]
      constructor
      · rintro (q | q)
        · exact .inl q
        · exact .inr (List.mem_cons_of_mem _ q)
      · rintro (q | q)
        · exact .inl q
        · rcases List.mem_cons.mp q with rfl | q
          · exact .inl h
          · exact .inr q
    · rw [if_neg h]
      simp [or_assoc]
theorem nodup_ded : ∀ {ks acc : List T}, acc.Nodup → (ded acc ks).Nodup
  | [], acc, h => h
  | k :: r, acc, h => by
    unfold ded
    refine nodup_ded (ks := r) ?_
    by_cases q : k ∈ acc
    · rw [if_pos q]; exact h
    · rw [if_neg q]
      refine List.nodup_append.mpr ⟨h, by simp, fun a ha b hb e => ?_⟩
      simp at hb
      subst hb e
      exact q ha
theorem mem_later {c : T} {p : Int} {g : T} : ∀ {prev acc : List T} {x : T}, x ∈ laterF c p g prev acc ↔ x ∈ acc ∨ ∃ now ∈ prev, ∃ h ∈ good c (addL now g) (sumIn c g - p), x = subL (addL now g) h
  | [], acc, x => by simp [laterF]
  | now :: r, acc, x => by
    unfold laterF
    rw [mem_later, mem_ded, mem_ded]
    simp only [List.mem_map, List.not_mem_nil, false_or, List.mem_cons, or_assoc]
    constructor
    · rintro (q | ⟨h, hh, rfl⟩ | ⟨n, hn, h, hh, rfl⟩)
      · exact .inl q
      · exact .inr ⟨now, .inl rfl, h, hh, rfl⟩
      · exact .inr ⟨n, .inr hn, h, hh, rfl⟩
    · rintro (q | ⟨n, rfl | hn, h, hh, rfl⟩)
      · exact .inl q
      · exact .inr (.inl ⟨h, hh, rfl⟩)
      · exact .inr (.inr ⟨n, hn, h, hh, rfl⟩)
theorem nodup_later {c : T} {p : Int} {g : T} : ∀ {prev acc : List T}, acc.Nodup → (laterF c p g prev acc).Nodup
  | [], acc, h => h
  | now :: r, acc, h => nodup_later (prev := r) (nodup_ded h)
/-! ### lengths and bounds -/
theorem addL_len {a b : T} (h : a.length = b.length) : (addL a b).length = a.length := by
  unfold addL; simp [h]
theorem In_len : ∀ {t h : T}, In t h → h.length = t.length
  | [], [], _ => rfl
  | m :: t, s :: h, hi => by simp [In_len hi.2.2]
  | [], _ :: _, hi => hi.elim
  | _ :: _, [], hi => hi.elim
def Box (M : Int) (d : Nat) (k : T) : Prop := k.length = d ∧ ∀ x ∈ k, 0 ≤ x ∧ x ≤ M
theorem Box.mono {M N : Int} {d : Nat} {k : T} (h : Box M d k) (hm : M ≤ N) : Box N d k := ⟨h.1, fun x hx => ⟨(h.2 x hx).1, Int.le_trans (h.2 x hx).2 hm⟩⟩
theorem box_cons {M : Int} {d : Nat} {x : Int} {k : T} : Box M (d + 1) (x :: k) ↔ (0 ≤ x ∧ x ≤ M) ∧ Box M d k := by
  unfold Box
  simp
  constructor
  · rintro ⟨a, b, d⟩; exact ⟨b, a, d⟩
  · rintro ⟨b, a, d⟩; exact ⟨a, b, d⟩
theorem box_add : ∀ {d : Nat} {M N : Int} {a b : T}, Box M d a → Box N d b → Box (M + N) d (addL a b)
  | 0, M, N, [], [], _, _ => ⟨rfl, by unfold addL; simp⟩
  | d + 1, M, N, x :: a, y :: b, h1, h2 => by
    obtain ⟨p, q⟩ := box_cons.mp h1
    obtain ⟨r, s⟩ := box_cons.mp h2
    have := box_add q s
    show Box (M + N) (d + 1) ((x + y) :: addL a b)
    exact box_cons.mpr ⟨⟨by omega, by omega⟩, this⟩
  | 0, _, _, _ :: _, _, h, _ => by have := h.1; simp at this
  | 0, _, _, [], _ :: _, _, h => by have := h.1; simp at this
  | _ + 1, _, _, [], _, h, _ => by have := h.1; simp at this
  | _ + 1, _, _, _ :: _, [], _, h => by have := h.1; simp at this
theorem box_sub : ∀ {d : Nat} {M : Int} {a h : T}, Box M d a → In a h → Box M d (subL a h)
  | 0, M, [], [], _, _ => ⟨rfl, by unfold subL; simp⟩
  | d + 1, M, x :: a, y :: b, h1, h2 => by
    obtain ⟨p, q⟩ := box_cons.mp h1
    have := box_sub q h2.2.2
    show Box M (d + 1) ((x - y) :: subL a b)
    exact box_cons.mpr ⟨⟨by have := h2.2.1; omega, by have := h2.1; omega⟩, this⟩
  | 0, _, _ :: _, _, h, _ => by have := h.1; simp at this
  | 0, _, [], _ :: _, _, h => h.elim
  | _ + 1, _, [], _, h, _ => by have := h.1; simp at this
  | _ + 1, _, _ :: _, [], _, h => h.elim
/-- all lists of a box -/
def boxL (M : Int) : Nat → List T
  | 0 => [[]]
  | d + 1 => (rg (M + 1)).flatMap fun x => (boxL M d).map (x :: ·)
theorem mem_boxL {M : Int} : ∀ {d : Nat} {k : T}, k ∈ boxL M d ↔ Box M d k
  | 0, k => by
    unfold boxL Box
    cases k <;> simp
  | d + 1, k => by
    unfold boxL
    rw [List.mem_flatMap]
    constructor
    · rintro ⟨x, hx, h⟩
      obtain ⟨r, hr, rfl⟩ := List.mem_map.mp h
      have := mem_rg.mp hx
      exact box_cons.mpr ⟨⟨this.1, by omega⟩, mem_boxL.mp hr⟩
    · intro h
      cases k with
      | nil => have := h.1; simp at this
      | cons x r =>
        obtain ⟨p, q⟩ := box_cons.mp h
        exact ⟨x, mem_rg.mpr ⟨p.1, by omega⟩, List.mem_map.mpr ⟨r, mem_boxL.mpr q, rfl⟩⟩
theorem sub_len {α : Type} [DecidableEq α] : ∀ {l r : List α}, l.Nodup → (∀ x ∈ l, x ∈ r) → l.length ≤ r.length
  | [], r, _, _ => Nat.zero_le _
  | x :: l, r, hn, h => by
    obtain ⟨h1, h2⟩ := List.nodup_cons.mp hn
    have hx := h x List.mem_cons_self
    have := sub_len (l := l) (r := r.erase x) h2 fun y hy => (List.mem_erase_of_ne (fun e => h1 (by rw [← e]; exact hy))).mpr (h y (List.mem_cons_of_mem _ hy))
    rw [List.length_erase_of_mem hx] at this
    have h0 : 0 < r.length := List.length_pos_of_mem hx
    rw [List.length_cons]; omega
theorem len_box {M : Int} {d : Nat} {l : List T} (hn : l.Nodup) (h : ∀ k ∈ l, Box M d k) : l.length ≤ (boxL M d).length :=
  sub_len hn fun k hk => mem_boxL.mpr (h k hk)
theorem boxL_len {M : Int} : ∀ d : Nat, (boxL M d).length = (M + 1).toNat ^ d
  | 0 => rfl
  | d + 1 => by
    have ih := boxL_len (M := M) d
    have : ∀ l : List Int, (l.flatMap fun x => (boxL M d).map (x :: ·)).length = l.length * (boxL M d).length := by
      intro l
      induction l with
      | nil => simp
      | cons x l ihl => rw [List.flatMap_cons, List.length_append, List.length_map, ihl, List.length_cons, Nat.add_mul, Nat.one_mul, Nat.add_comm]
    unfold boxL
    rw [this, rg_len, ih, Nat.pow_succ, Nat.mul_comm]
/-! ### both ways agree -/
/-- payers of d kinds whose heaps hold at most two of each -/
def POk (G : Int) (c : T) (p : Pay) : Prop := Box G c.length p.2 ∧ 0 ≤ p.1 ∧ p.1 ≤ sumIn c p.2
theorem next_box {c : T} {M G : Int} {p : Pay} (hc : ∀ v ∈ c, 0 < v) (hp : POk G c p) {now h : T} (hb : Box M c.length now) (hm : In (addL now p.2) h) : Box (M + G) c.length (subL (addL now p.2) h) :=
  box_sub (box_add hb hp.1) hm
theorem both_mem {c : T} {M G : Int} {p : Pay} (hc : ∀ v ∈ c, 0 < v) (hp : POk G c p) {prev row : List T} (hb : ∀ k ∈ prev, Box M c.length k) (hr : ∀ k, k ∈ prev ↔ k ∈ row) {x : T} :
    x ∈ keys (layF c p.1 p.2 prev []) ↔ x ∈ laterF c p.1 p.2 row [] := by
  rw [mem_layF, mem_later]
  constructor
  · rintro (q | ⟨n, hn, h, hh, rfl⟩)
    · cases q
    · refine .inr ⟨n, (hr n).mp hn, h, ?_, rfl⟩
      have e : c.length = (addL n p.2).length := by rw [addL_len (by rw [(hb n hn).1, hp.1.1]), (hb n hn).1]
      exact mem_good.mpr ((mem_chg hc e (by have := hp.2.2; omega)).mp hh)
  · rintro (q | ⟨n, hn, h, hh, rfl⟩)
    · cases q
    · have hn' := (hr n).mpr hn
      refine .inr ⟨n, hn', h, ?_, rfl⟩
      have e : c.length = (addL n p.2).length := by rw [addL_len (by rw [(hb n hn').1, hp.1.1]), (hb n hn').1]
      exact (mem_chg hc e (by have := hp.2.2; omega)).mpr (mem_good.mp hh)
theorem lay_box {c : T} {M G : Int} {p : Pay} (hc : ∀ v ∈ c, 0 < v) (hp : POk G c p) {prev : List T} (hb : ∀ k ∈ prev, Box M c.length k) : ∀ k ∈ keys (layF c p.1 p.2 prev []), Box (M + G) c.length k := by
  intro k hk
  rcases mem_layF.mp hk with q | ⟨n, hn, h, hh, rfl⟩
  · cases q
  · have e : c.length = (addL n p.2).length := by rw [addL_len (by rw [(hb n hn).1, hp.1.1]), (hb n hn).1]
    exact next_box hc hp (hb n hn) ((mem_chg hc e (by have := hp.2.2; omega)).mp hh).1
theorem later_nil {c : T} {p : Int} {g : T} : laterF c p g [] [] = [] := rfl
theorem rows_dead {srt : List T → List T} (hs : ∀ l, (srt l).Perm l) {c : T} : ∀ (ps : List Pay) (acc : List (List T)), ((rowsF srt c ps [] acc).filter fun r => decide (r ≠ [])).length = (acc.filter fun r => decide (r ≠ [])).length
  | [], acc => rfl
  | p :: ps, acc => by
    have e : srt (laterF c p.1 p.2 [] []) = [] := by
      have := hs (laterF c p.1 p.2 [] [])
      rw [later_nil] at this ⊢
      exact List.perm_nil.mp this
    unfold rowsF
    rw [e, rows_dead hs ps]
    simp
theorem keys_nil {l : Lay} : keys l = [] ↔ l = [] := by unfold keys; simp
theorem both_len {srt : List T → List T} (hs : ∀ l, (srt l).Perm l) {G : Int} {c : T} (hc : ∀ v ∈ c, 0 < v) : ∀ (ps : List Pay) (M : Int) (last : Lay) (row : List T) (acc : List Lay) (rows : List (List T)), (∀ p ∈ ps, POk G c p) →
    (∀ k ∈ keys last, Box M c.length k) → (∀ k, k ∈ keys last ↔ k ∈ row) → (rows.filter fun r => decide (r ≠ [])).length = acc.length →
    ((rowsF srt c ps row rows).filter fun r => decide (r ≠ [])).length = (goF c ps last acc).length
  | [], M, last, row, acc, rows, _, _, _, hl => hl
  | p :: ps, M, last, row, acc, rows, hp, hb, hr, hl => by
    have hp0 := hp p List.mem_cons_self
    have hm : ∀ x, x ∈ keys (layF c p.1 p.2 (keys last) []) ↔ x ∈ srt (laterF c p.1 p.2 row []) := fun x => by
      rw [both_mem hc hp0 hb hr]
      exact (hs _).mem_iff.symm
    unfold rowsF goF
    by_cases h : layF c p.1 p.2 (keys last) [] = []
    · rw [if_pos h]
      have e : srt (laterF c p.1 p.2 row []) = [] := by
        refine List.eq_nil_iff_forall_not_mem.mpr fun x hx => ?_
        have := (hm x).mpr hx
        rw [h] at this
        cases this
      rw [e, rows_dead hs]
      simpa using hl
    · rw [if_neg h]
      refine both_len hs hc ps (M + G) _ _ _ _ (fun q hq => hp q (List.mem_cons_of_mem _ hq)) (lay_box hc hp0 hb) hm ?_
      have e : srt (laterF c p.1 p.2 row []) ≠ [] := fun e => h (keys_nil.mp (List.eq_nil_iff_forall_not_mem.mpr fun x hx => by
        have := (hm x).mp hx
        rw [e] at this
        cases this))
      rw [List.filter_append, List.length_append, List.length_append, hl]
      simp [e]
theorem served_eq {srt : List T → List T} (hs : ∀ l, (srt l).Perm l) {c till : T} (hc : ∀ v ∈ c, 0 < v) {M G : Int} (hb : Box M c.length till) {ps : List Pay} (hp : ∀ p ∈ ps, POk G c p) : servedL srt c till ps = ((layersF c till ps).length : Int) - 1 := by
  unfold servedL layersF
  rw [both_len hs hc ps M [(till, none)] [till] [[(till, none)]] [[till]] hp (by simpa [keys] using hb) (by simp [keys]) (by simp)]
theorem go_len {c : T} : ∀ (ps : List Pay) (last : Lay) (acc : List Lay), acc.length ≤ (goF c ps last acc).length ∧ (goF c ps last acc).length ≤ acc.length + ps.length
  | [], _, acc => ⟨Nat.le_refl _, Nat.le_refl _⟩
  | p :: ps, last, acc => by
    unfold goF
    split
    · exact ⟨Nat.le_refl _, by omega⟩
    · have := go_len (c := c) ps (layF c p.1 p.2 (keys last) []) (acc ++ [layF c p.1 p.2 (keys last) []])
      rw [List.length_append] at this
      simp at this ⊢
      omega
theorem go_more {c : T} (q : Pay) : ∀ (ps : List Pay) (last : Lay) (acc : List Lay), (goF c ps last acc).length ≤ (goF c (ps ++ [q]) last acc).length
  | [], last, acc => (go_len [q] last acc).1
  | p :: ps, last, acc => by
    rw [List.cons_append]
    unfold goF
    split
    · exact Nat.le_refl _
    · exact go_more q ps _ _
theorem part_len {c : T} {M G : Int} {p : Pay} (hc : ∀ v ∈ c, 0 < v) (hp : POk G c p) {prev pre cs : List T} {now : T} (hb : ∀ k ∈ prev, Box M c.length k) (h1 : ∀ k ∈ pre, k ∈ prev) (hn : now ∈ prev)
    (hcs : ∀ h ∈ cs, h ∈ chg c (addL now p.2) (sumIn c p.2 - p.1)) : (addAll now (addL now p.2) cs (layF c p.1 p.2 pre [])).length ≤ (M + G + 1).toNat ^ c.length := by
  have hk : (keys (addAll now (addL now p.2) cs (layF c p.1 p.2 pre []))).Nodup := nodup_addAll (nodup_layF (by simp [keys]))
  have hbx : ∀ k ∈ keys (addAll now (addL now p.2) cs (layF c p.1 p.2 pre [])), Box (M + G) c.length k := by
    intro k hk
    rcases mem_addAll.mp hk with q | ⟨h, hh, rfl⟩
    · exact lay_box hc hp (fun k hk => hb k (h1 k hk)) k q
    · have e : c.length = (addL now p.2).length := by rw [addL_len (by rw [(hb now hn).1, hp.1.1]), (hb now hn).1]
      exact next_box hc hp (hb now hn) ((mem_chg hc e (by have := hp.2.2; omega)).mp (hcs h hh)).1
  have := len_box hk hbx
  rw [boxL_len] at this
  unfold keys at this
  rw [List.length_map] at this
  exact this
theorem layF_app {c : T} {p : Int} {g now : T} : ∀ {pre : List T} {l : Lay}, layF c p g (pre ++ [now]) l = addAll now (addL now g) (chg c (addL now g) (sumIn c g - p)) (layF c p g pre l)
  | [], l => rfl
  | n :: r, l => by
    show layF c p g (r ++ [now]) _ = _
    rw [layF_app]; rfl
theorem chg_len {c t : T} {a : Int} {N : Nat} (ht : ∀ x ∈ t, x < N) : (chg c t a).length ≤ N ^ (c.zip t).length := by
  unfold chg
  rw [List.length_map]
  refine Nat.le_trans (List.length_filter_le _ _) ?_
  have := run_len (N := N) (c.zip t) [([], a)] fun p hp => ht p.2 (List.of_mem_zip hp).2
  simpa using this
/-! ### orders -/
theorem mem_ords {many : Int} : ∀ {n : Nat} {o : T}, o ∈ ordsN many n → o.length = n ∧ ∀ a ∈ o, 0 ≤ a ∧ a < many
  | 0, o, h => by
    have : o = [] := by simpa [ordsN] using h
    subst this
    exact ⟨rfl, fun a ha => nomatch ha⟩
  | n + 1, o, h => by
    unfold ordsN ordStep at h
    obtain ⟨x, hx, h2⟩ := List.mem_flatMap.mp h
    obtain ⟨a, ha, rfl⟩ := List.mem_map.mp h2
    obtain ⟨q1, q2⟩ := mem_ords hx
    have := mem_rg.mp (List.mem_filter.mp ha).1
    refine ⟨by simp [q1], fun b hb => ?_⟩
    rcases List.mem_append.mp hb with hb | hb
    · exact q2 b hb
    · simp at hb; subst hb; exact this
theorem ordStep_len {many : Int} : ∀ f : List T, (ordStep many f).length ≤ f.length * many.toNat
  | [] => by simp [ordStep]
  | x :: f => by
    have ih := ordStep_len (many := many) f
    unfold ordStep at ih ⊢
    rw [List.flatMap_cons, List.length_append, List.length_map, List.length_cons, Nat.add_mul, Nat.one_mul]
    have := List.length_filter_le (fun a => !(x.contains a)) (rg many)
    rw [rg_len] at this
    omega
theorem ords_len {many : Int} : ∀ n : Nat, (ordsN many n).length ≤ many.toNat ^ n
  | 0 => by simp [ordsN]
  | n + 1 => by
    have h1 := ordStep_len (many := many) (ordsN many n)
    have h2 := Nat.mul_le_mul_right many.toNat (ords_len (many := many) n)
    unfold ordsN
    rw [Nat.pow_succ]
    exact Nat.le_trans h1 h2
theorem ordStep_app {many : Int} (f g : List T) : ordStep many (f ++ g) = ordStep many f ++ ordStep many g := by
  unfold ordStep; rw [List.flatMap_append]
theorem ordStep_one {many : Int} (o : T) : ordStep many [o] = ((rg many).filter fun a => !(o.contains a)).map fun a => o ++ [a] := by
  unfold ordStep; simp
theorem inOrd_len (ps : List Pay) (o : T) : (inOrd ps o).length = o.length := by unfold inOrd; simp
theorem inOrd_mem {ps : List Pay} {o : T} (h : ∀ a ∈ o, 0 ≤ a ∧ a < (ps.length : Int)) : ∀ p ∈ inOrd ps o, p ∈ ps := by
  intro p hp
  unfold inOrd at hp
  obtain ⟨a, ha, rfl⟩ := List.mem_map.mp hp
  have := h a ha
  have hl : a.toNat < ps.length := by omega
  rw [List.getD_eq_getElem?_getD, List.getElem?_eq_getElem hl]
  exact List.getElem_mem hl
/-! ### the law's heaps -/
theorem heapStep_app {m : Int} (f g : List T) : heapStep m (f ++ g) = heapStep m f ++ heapStep m g := by
  unfold heapStep; rw [List.flatMap_append]
theorem heapStep_one {m : Int} (h : T) : heapStep m [h] = (rg (m + 1)).map fun s => h ++ [s] := by
  unfold heapStep; simp
theorem heapStep_len {m : Int} {N : Nat} (hm : m < N) : ∀ f : List T, (heapStep m f).length ≤ f.length * N
  | [] => by simp [heapStep]
  | x :: f => by
    have ih := heapStep_len hm f
    unfold heapStep at ih ⊢
    rw [List.flatMap_cons, List.length_append, List.length_map, rg_len, List.length_cons, Nat.add_mul, Nat.one_mul]
    omega
theorem heaps_app {m : Int} : ∀ {t : T} {f : List T}, heapsF (t ++ [m]) f = heapStep m (heapsF t f)
  | [], f => rfl
  | x :: t, f => by
    show heapsF (t ++ [m]) _ = _
    rw [heaps_app]; rfl
theorem heaps_len {N : Nat} : ∀ (t : T) (f : List T), (∀ m ∈ t, m < N) → (heapsF t f).length ≤ f.length * N ^ t.length
  | [], f, _ => by simp [heapsF]
  | m :: t, f, h => by
    have h1 := heaps_len t (heapStep m f) fun q hq => h q (List.mem_cons_of_mem _ hq)
    have h2 := heapStep_len (h m List.mem_cons_self) f
    unfold heapsF
    rw [List.length_cons, Nat.pow_succ, Nat.mul_comm (N ^ t.length), ← Nat.mul_assoc]
    exact Nat.le_trans h1 (Nat.mul_le_mul_right _ h2)
theorem later_app {c : T} {p : Int} {g now : T} : ∀ {pre acc : List T}, laterF c p g (pre ++ [now]) acc = ded (laterF c p g pre acc) (ded [] ((good c (addL now g) (sumIn c g - p)).map (subL (addL now g))))
  | [], acc => rfl
  | n :: r, acc => by
    show laterF c p g (r ++ [now]) _ = _
    rw [later_app]; rfl
theorem good_len {c t : T} {a : Int} {N : Nat} (h : ∀ m ∈ t, m < N) : (good c t a).length ≤ N ^ t.length := by
  unfold good
  have := heaps_len t [[]] h
  refine Nat.le_trans (List.length_filter_le _ _) ?_
  simpa using this
theorem sum_le : ∀ {c h : T} {d : Nat}, (∀ x ∈ c, 1 ≤ x ∧ x ≤ 12) → c.length = d → Box 2 d h → 0 ≤ sumIn c h ∧ sumIn c h ≤ 24 * (d : Int)
  | [], [], _, _, rfl, _ => by unfold sumIn; simp
  | x :: c, y :: h, _, hc, rfl, hb => by
    obtain ⟨p, q⟩ := box_cons.mp hb
    have ih := sum_le (c := c) (h := h) (fun z hz => hc z (List.mem_cons_of_mem _ hz)) rfl q
    have hx := hc x List.mem_cons_self
    rw [sumIn_cons]
    have h1 : 0 ≤ x * y := Int.mul_nonneg (by omega) p.1
    have h2 : x * y ≤ 12 * y := Int.mul_le_mul_of_nonneg_right hx.2 p.1
    simp only [List.length_cons]
    omega
  | [], _ :: _, _, _, rfl, hb => by have := hb.1; simp at this
  | _ :: _, [], _, _, rfl, hb => by have := hb.1; simp at this
theorem rows_len {srt : List T → List T} {c : T} : ∀ (ps : List Pay) (last : List T) (acc : List (List T)), (rowsF srt c ps last acc).length = acc.length + ps.length
  | [], _, acc => by simp [rowsF]
  | p :: ps, last, acc => by
    unfold rowsF
    rw [rows_len ps]
    simp; omega
theorem ords_ne {n : Nat} (h : n ≤ 3) : ordsN n n ≠ [] := by
  match n, h with
  | 0, _ => decide +kernel
  | 1, _ => decide +kernel
  | 2, _ => decide +kernel
  | 3, _ => decide +kernel
end N97
/-! k96: what the law's last row is. -/
namespace N97
theorem rows_dead_last {srt : List T → List T} (hs : ∀ l, (srt l).Perm l) {c : T} : ∀ (ps : List Pay) (acc : List (List T)), acc.getLast? = some [] → (rowsF srt c ps [] acc).getLast? = some []
  | [], acc, h => h
  | p :: ps, acc, h => by
    have e : srt (laterF c p.1 p.2 [] []) = [] := by
      have := hs (laterF c p.1 p.2 [] [])
      rw [later_nil] at this ⊢
      exact List.perm_nil.mp this
    unfold rowsF
    rw [e]
    exact rows_dead_last hs ps _ (by simp)
theorem both_last {srt : List T → List T} (hs : ∀ l, (srt l).Perm l) {G : Int} {c : T} (hc : ∀ v ∈ c, 0 < v) : ∀ (ps : List Pay) (M : Int) (last : Lay) (row : List T) (acc : List Lay) (rows : List (List T)), (∀ p ∈ ps, POk G c p) →
    (∀ k ∈ keys last, Box M c.length k) → (∀ k, k ∈ keys last ↔ k ∈ row) → rows.getLast? = some row → acc.getLast? = some last → row.Nodup → (keys last).Nodup →
    ∃ r l, (rowsF srt c ps row rows).getLast? = some r ∧ (goF c ps last acc).getLast? = some l ∧ (keys l).Nodup ∧ r.Nodup ∧
      (((goF c ps last acc).length = acc.length + ps.length → (∀ k, k ∈ keys l ↔ k ∈ r)) ∧ ((goF c ps last acc).length < acc.length + ps.length → r = []))
  | [], M, last, row, acc, rows, _, _, hr, h1, h2, h3, h4 => ⟨row, last, h1, h2, h4, h3, fun _ => hr, fun h => by simp [goF] at h⟩
  | p :: ps, M, last, row, acc, rows, hp, hb, hr, h1, h2, h3, h4 => by
    have hp0 := hp p List.mem_cons_self
    have hm : ∀ x, x ∈ keys (layF c p.1 p.2 (keys last) []) ↔ x ∈ srt (laterF c p.1 p.2 row []) := fun x => by
      rw [both_mem hc hp0 hb hr]
      exact (hs _).mem_iff.symm
    unfold rowsF goF
    by_cases h : layF c p.1 p.2 (keys last) [] = []
    · rw [if_pos h]
      have e : srt (laterF c p.1 p.2 row []) = [] := by
        refine List.eq_nil_iff_forall_not_mem.mpr fun x hx => ?_
        have := (hm x).mpr hx
        rw [h] at this
        cases this
      rw [e]
      exact ⟨[], last, rows_dead_last hs ps _ (by simp), h2, h4, by simp, fun z => by simp at z, fun _ => rfl⟩
    · rw [if_neg h]
      obtain ⟨r, l, a1, a2, a3, a4, a5, a6⟩ := both_last hs hc ps (M + G) (layF c p.1 p.2 (keys last) []) (srt (laterF c p.1 p.2 row [])) (acc ++ [layF c p.1 p.2 (keys last) []]) (rows ++ [srt (laterF c p.1 p.2 row [])]) (fun q hq => hp q (List.mem_cons_of_mem _ hq)) (lay_box hc hp0 hb) hm (by simp) (by simp) ((hs _).nodup_iff.mpr (nodup_later (by simp))) (nodup_layF (by simp [keys]))
      refine ⟨r, l, a1, a2, a3, a4, fun z => a5 ?_, fun z => a6 ?_⟩
      · simp at z ⊢; omega
      · simp at z ⊢; omega
/-- the rows' last and the layers' last -/
theorem last_row {srt : List T → List T} (hs : ∀ l, (srt l).Perm l) {c till : T} (hc : ∀ v ∈ c, 0 < v) {M G : Int} (hb : Box M c.length till) {ps : List Pay} (hp : ∀ p ∈ ps, POk G c p) :
    ∃ r l, (rowsF srt c ps [till] [[till]]).getLast? = some r ∧ (layersF c till ps).getLast? = some l ∧
      (((layersF c till ps).length = 1 + ps.length → (∀ k, k ∈ keys l ↔ k ∈ r) ∧ r.length = l.length) ∧ ((layersF c till ps).length < 1 + ps.length → r = [])) := by
  obtain ⟨r, l, a1, a2, a3, a4, a5, a6⟩ := both_last hs hc ps M [(till, none)] [till] [[(till, none)]] [[till]] hp (by simpa [keys] using hb) (by simp [keys]) rfl rfl (by simp) (by simp [keys])
  refine ⟨r, l, a1, a2, fun z => ?_, a6⟩
  have h := a5 z
  refine ⟨h, ?_⟩
  have hp := (List.perm_ext_iff_of_nodup a4 a3).mpr fun k => (h k).symm
  have := hp.length_eq
  unfold keys at this
  rwa [List.length_map] at this
theorem sum_add : ∀ {c a b : T}, c.length = a.length → a.length = b.length → sumIn c (addL a b) = sumIn c a + sumIn c b
  | [], [], [], _, _ => by simp [sumIn]
  | x :: c, y :: a, z :: b, h1, h2 => by
    have ih := sum_add (c := c) (a := a) (b := b) (by simpa using h1) (by simpa using h2)
    show sumIn (x :: c) ((y + z) :: addL a b) = _
    rw [sumIn_cons, sumIn_cons, sumIn_cons, ih, Int.mul_add]; omega
  | [], _ :: _, _, h1, _ => by simp at h1
  | _ :: _, [], _, h1, _ => by simp at h1
  | _, [], _ :: _, _, h2 => by simp at h2
  | _, _ :: _, [], _, h2 => by simp at h2
theorem sum_sub : ∀ {c a b : T}, c.length = a.length → a.length = b.length → sumIn c (subL a b) = sumIn c a - sumIn c b
  | [], [], [], _, _ => by simp [sumIn]
  | x :: c, y :: a, z :: b, h1, h2 => by
    have ih := sum_sub (c := c) (a := a) (b := b) (by simpa using h1) (by simpa using h2)
    show sumIn (x :: c) ((y - z) :: subL a b) = _
    rw [sumIn_cons, sumIn_cons, sumIn_cons, ih, Int.mul_sub]; omega
  | [], _ :: _, _, h1, _ => by simp at h1
  | _ :: _, [], _, h1, _ => by simp at h1
  | _, [], _ :: _, _, h2 => by simp at h2
  | _, _ :: _, [], _, h2 => by simp at h2
theorem go_ne {c : T} : ∀ (ps : List Pay) (last : Lay) (acc : List Lay) (l : Lay), last ≠ [] → acc.getLast? = some last → (goF c ps last acc).getLast? = some l → l ≠ []
  | [], last, acc, l, h1, h2, h3 => by
    have h3' : acc.getLast? = some l := h3
    rw [h2] at h3'
    cases h3'
    exact h1
  | p :: ps, last, acc, l, h1, h2, h3 => by
    unfold goF at h3
    by_cases h : layF c p.1 p.2 (keys last) [] = []
    · rw [if_pos h, h2] at h3
      cases h3
      exact h1
    · rw [if_neg h] at h3
      exact go_ne ps _ _ l h (by simp) h3
end N97
/-! hashes of lists of three whole numbers from 0 to 10: no two alike. -/
namespace HT
open Dn N97
def h0 : List Int := [3010437511937009226, -1882636517035687140, 226646856081943157, -4666427172890753209, 1841213583211245216, -3051860445761451150, -942577072643820853, 5565063683458177572, 671989654485481206, 7179630410587479631, -2111801001369584863, 7619408953831620358, -4319694363775932833, 2187946392326065592, -2705127636646630774, -595844263529000477, -5488918292501696843, 1018722463600301582, 7526363219702300007, -1765068192254764487, 4742572563847233938, -150501465125462428, 4753388729894279496, 6862672103011909793, -5076431214595643398, 8477238830141211852, -3461864487466341339, -8354938516439037705, -6245655143321407408, 7308014901415447842, -4631088416192105349, 1876552339909893076, -7414879072047171418, 2316330883154033803, 8823971639256032228, -3115131678351520963, 6040180983400966159, -5898922334206587032, 7654747710530268218, -4284355607077284973, 4870957054675202149, -7068146262932351042, -560505506830352617, -5453579535803048983, -120726963586211890, 6386913792515786535, 1493839763543090169, 8001480519645088594, -8335980180946832725, 5217689863790022525, -6721413453817530666, 6832256590919324584, -5106846726688228607, -2997563353570598310, -7890637382543294676, 2683392399743319337, -2209681629229377029, 4297959126872621396, -4993472285084443098, 1514168471017555327, -3378905557955141039, 3128735198146857386, 5238018571264487683, 344944542291791317, 6852585298393789742, 1959511269421093376, -5423805034263798445, 1083835721838199980, -3809238307134496386, 2698402448967502039, 4807685822085132336, -85388206887564030, 6422252549214434395, 1529178520241738029, 3638461893359368326, -1254612135613328040, 5253028620488670385, 4426343617700589607, -7512759699906963584, -1005118943804965159, 8150193717947521963, -3788909599660031228, -8681983628632727594, -2174342872530729169, 6980969789221757953, -4958133528385795238, 1549507227716203187, -3343566801256493179, 1989285770960343914, 8496926527062342339, -3442176790545210852, -8335250819517907218, -6225967446400276921, 7327702598336578329, -4611400719270974862, 8942269325465880388, -7395191375126040931, -887550619024042506, -5780624647996738872, 4793405134289875141, -99668894682821225, 6407971861419177200, -2883459550537887294, 3624181205564111131, -1268892823408585235, 5238747932693413190, 7348031305811043487, 2454957276838347121, 8962598032940345546, 4069524003967649180, -3313792299717242641, 3193848456384755784, -1699225572587940582, 4808415183514057843, 6917698556631688140, 2024624527658991774, 8532265283760990199, 3639191254788293833, 5748474627905924130, 855400598933227764, 7363041355035226189]
def h1 : List Int := [7839147235533974352, 2946073206561277986, -8993030111046275205, -6883746737928644908, 6669923306808210342, -5269180010799342849, 8284490033937512401, -8052970666654408918, 5500699378082446332, -6438403939525106859, 69236816576891566, -757448186211189212, 5750192569890809213, -3541238842066255281, 2966401914035743144, -1926672114936953222, 4580968641165045203, 6690252014282675500, 1797177985309979134, 8304818741411977559, 3411744712439281193, 5521028085556911490, -3194506032951434905, 3313134723150563520, -1579939305822132846, 529344067295497451, -4363729961677198915, 2143910794424799510, -2749163234547896856, -639879861430266559, 5867760894671731866, 974686865699035500, 7482327621801033925, 99011318116142104, -4794062710856554262, 1713578045245444163, -3179495983727252203, -1070212610609621906, 5437428145492376519, 544354116519680153, 7051994872621678578, -2239436539335385916, 4268204216766612509, -7670899100840940682, -8497584103629021460, 5056085941107833790, -6883017376499719401, -4773734003382089104, 8779936041354766146, -3159167276252787045, -8052241305225483411, -5942957932107853114, 564682823994145311, -4328391204978551055, 2179249551123447370, 7512102123340284463, 2619028094367588097, 9126668850469586522, -2812434467137966669, 6342878194614520453, -5596225122993032738, 7957444921743822512, -3981658395863730679, 5173654265888756443, -6765449051718796748, -257808295616798323, -1084493298404879101, 5423147457697119324, 530073428724422958, 2639356801842053255, -2253717227130643111, 4253923528971355314, -7685179788636197877, 1470132873116289245, 7977773629218287670, 3084699600245591304, -8854403717361961887, 2209024052662697908, -2684049976309998458, 3823590779791999967, 5932874152909630264, 1039800123936933898, 7547440880038932323, 2654366851066235957, 9162007607168234382, -129423804788830112, 6378216951313168313, -5560886366294384878, 4170323588906820343, -5121107823050244151, 1386532933051754274, -3506541095920942092, 3001099660181056333, 5110383033298686630, 217309004325990264, 6724949760427988689, 1831875731455292323, 3941159104572922620, -7997944213034630571, -8824629215822711349, -2316988459720712924, -7210062488693409290, -702421732591410865, 8452890929161076257, -3486212388446476934, -8379286417419173300, -1871645661317174875, 237637711800455422, -4655436317172240944, 1852204438929757481, -6863329679578588914, 2291982982173898208, 8799623738275896633, -3139479579331656558, -8032553608304352924, -5923270235186722627, 7630399809550132623, -4308703508057420568, 2198937248044577857, -7092494163912486637, -584853407810488212]
def h2 : List Int := [5744133208557280471, 7853416581674910768, 2960342552702214402, -8978760764905338789, -2471120008803340364, 6684192652949146758, -5254910664658406433, 8298759380078448817, -3640343937529104374, 5514968724223382748, -6424134593384170443, 9037650559624857480, -7299810140967063839, 6253859903769791411, -5685243413837761780, 7868426630899093470, -4070676686708459721, 5084635975044027401, -6854467342563525790, -346826586461527365, -5239900615434223731, -3130617242316593434, -3957302245104674212, 2550338510997324213, -2342735517975372153, 4164905238126626272, -5126526173830438222, 1381114582271560203, 7888755338373558628, 2995681309400862262, -8943422008206690929, 211890653545796193, 6719531409647794618, -1996002708860551777, 4511638047241446648, -4779793364715617846, 1727847391386380579, -3165226637586315787, 3342414118515682638, 5451697491633312935, 558623462660616569, 7066264218762614994, 2173190189789918628, 4282473562907548925, 7854145943103836275, -8483314757488085044, 5070355287248770206, -6868748030358782985, -361107274256784560, 8794205387495702562, -3144897930111850629, -8037971959084546995, -1530331202982548570, 7624981458769938552, -4314121858837614639, 5417088096363590582, -6522015221243962609, 2633297440508524513, 9140938196610522938, -2798165120997030253, -7691239149969726619, -5581955776852096322, 7971714267884758928, -3967389049722794263, -8860463078695490629, -6751179705577860332, 8710605447431167591, -3228497870176385600, -8121571899149081966, -6012288526031451669, 7541381518705403581, -4397721798902149610, 9155948245834705640, -7181512454757215679, -673871698655217254, -5566945727627913620, 940695028474084805, 114010025686004027, 2223293398803634324, -2669780630169062042, 3837860125932936383, -1055213903039759983, 5452426853062238442, 7561710226179868739, 2668636197207172373, 9176276953309170798, 4283202924336474432, 6392486297454104729, -2323047821054241666, 4184592935047756759, -708481093924939607, 1400802279192690690, -3492271749780005676, 3015369006321992749, -8923734311285560442, 231578350466926680, 6739219106568925105, 1846145077596228739, 8353785833698227164, 7527100830910146386, -4412002486697406805, 4743310175055080317, -7195793142552472874, -688152386450474449, -5581226415423170815, -3471943042305540518, -8365017071278236884, -1857376315176238459, -6750450344148934825, -4641166971031304528, -7626125891731828221, -1118485135629829796, 8036827526122657326, -3902275791484895865, -8795349820457592231, -2287709064355593806, -7180783093328290172, -5071499720210659875, 1436141035891338550, -3456932993081357816, 3050707763020640609]
def h3 : List Int := [-3445403467425988824, -8338477496398685190, -1830836740296686765, -6723910769269383131, -216270013167384706, 1893013359950245591, -3000060669022450775, 3507580087079547650, -1385493941893148716, 723789431224481581, -4169284597748214785, -1484103931181866389, -6377177960154562755, -4267894587036932458, -9160968616009628824, -2653327859907630399, 3854312896194368026, -5437118515762696468, 1070522240339301957, -3822551788633394409, 2685088967468604016, -6606342444488460478, 8366044720782521663, -925386691174542831, 5582254064927455594, -6356849252680097597, 7196820792056757653, -9140639908535163666, 4413030136201691584, -7526073181405861607, 6027596863330993643, 8136880236448623940, -3802223081158929251, -6787182001859452944, 2368130659893034178, 8875771415995032603, 3982697387022336237, -7956405930585216954, 1198906731167270168, 7706547487269268593, -4232555830338284598, -9125629859310980964, -2617989103208982539, 6537323558543504583, -1335390732879433020, -6228464761852129386, 279175994249869039, -4613898034722827327, -2504614661605197030, 4003026094496801395, -890047934475894971, 5617592821626103454, -3673838590330961040, 2833802165771037385, -9105301151836515806, 625908803364689415, -4267165225608006951, -2157881852490376654, -7050955881463073020, -543315125361074595, 5964325630740923830, -3327105781216140664, 3180534974885857761, -1712539054086838605, 4795101702015159820, -4496329709941904674, -1811149043375556278, -6704223072348252644, -196582316246254219, 8958730345506232903, -2980372972101320288, 3527267784000678137, -1365806244972018229, 743477128145612068, -4149596900827084298, 2358043855274914127, -2535030173697782239, -4677169267312897140, 4478143394439589982, -7460959923167963209, 6092710121568892041, -5846393196038661150, 3308919465713825972, -8630183851893727219, -2122543095791728794, -7015617124764425160, -4906333751646794863, 8647336293090060387, -7114227114053142833, 6439442930683712417, 8548726303801342714, 3655652274828646348, -8283451042778906843, 5270219001957948407, -6668884315649604784, -4559600942531974487, 8994069102204880763, -2945034215402672428, -7838108244375368794, 2735921537911245219, -6555509874045819275, -47869117943820850, -4940943146916517216, 1566697609185481209, 3675980982303111506, -1217093046669584860, 5290547709432413565, 397473680459717199, 6905114436561715624, 9014397809679345921, 298863691170999526, -4594210337801696840, 1913430418300301585, -7378000993656762909, -870360237554764484, 5637280518547233941, 744206489574537575, 2853489862692167872, -2039584166280528494, 4468056589821469931, -425017439151226435]
def h4 : List Int := [-5540417494402682705, 967223261699315720, -3925850767273380646, -1816567394155750349, -6709641423128446715, -202000667026448290, 6305640089075550135, -2985791322881514359, 3521849433220484066, -1371224595752212300, 5136416160349786125, -7977475341142928398, -1469834585040929973, -6362908614013626339, 144732142088372086, -9146699269868692408, -2639058513766693983, -7532132542739390349, -1024491786637391924, 1084791586480238373, -3808282442492457993, 2699358313609540432, 7603248508629282356, -4335854808978270835, 4819457852774216287, -7119645464833336904, 6434024579903518346, -5505078737704034845, 3650233924048452277, -8288869393559100914, -1781228637457102489, -6674302666429798855, -4565019293312168558, 5166190661889036663, 273116632916340297, 6780757389018338722, 8890040762135969019, 3996966733163272653, -7942136584444280538, 5611533460292574712, -6327569857314978479, -4218286484197348182, -9111360513170044548, -2603719757068046123, 7127490198133159098, -2163941213823905396, 4343699542278093029, -7595403775329460162, 5958266269407395088, 8067549642525025385, 3174475613552329019, -8764627704055224172, 4789042340681631078, 6898325713799261375, -5040777603808291816, -5867462606596372594, 640178149505625831, -4252895879467070535, 2254744876634927890, -7036686535322136604, -529045779220138179, 5978594976881860246, 1085520947909163880, 3194804321026794177, -1698269707945902189, 4809371048156096236, -2573945255528795585, -7467019284501491951, -959378528399493526, -5852452557372189892, -3743169184254559595, 2764471571847438830, -2128602457125257536, 4379038298976740889, -4912393112980323605, 1595247643121674820, 8102888399223673245, 7276203396435592467, -4662899921171960724, 8890770123564894526, -7446690577027026793, 6106979467709828457, -5832123849897724734, 7721546194839130516, -8615914505752790803, -2108273749650792378, -7001347778623488744, -493707022521490319, 4839145549695346774, -53928479277349592, 6453712276824648833, -5485391040782904358, 8068279003953950892, -8269181696637970427, 5284488348098884823, -6654614969508668368, -146974213406669943, 9008338448345817179, -2930764869261736012, -3757449872049816790, 2750190884052181635, -2142883144920514731, 4364757611181483694, -4926673800775580800, 1580966955326417625, 8088607711428416050, 3195533682455719684, 5304817055573349981, 411743026600653615, 6919383782702652040, -463932520982239781, -5357006549954936147, 1150634206147062278, 7658274962249060703, -1633156449708003791, 4874484306393994634, -18589722578701732, 6489051033523296693, -2802380378433767801, 3705260377668230624, -8233842939939322567]
def h5 : List Int := [-711707770805717579, 5795932985296280846, -6143170332311272345, 3012142329441214777, -8926960988166338414, 4626709056570516836, -7312394261037036355, 6241275783699818895, 8350559156817449192, -3588544160790103999, -8481618189762800365, 1249591765438404856, 3358875138556035153, -8580228179051518038, 4973441865685337212, -6965661451922215979, 2189651209830271143, 8697291965932269568, 3804217936959573202, -8134885380647979989, -6025602007530349692, 7528068037206505558, -6014785841483304134, 492854914618694291, -4400219114354002075, -2290935741236371778, 4216705014865626647, -676369014107069719, 5831271741994928706, -3460159669962135788, 3047481086139862637, -8891622231467690554, 4662047813269164696, -8451843688223549827, -1944202932121551402, -6837276961094247768, -329636204992249343, 1779647168125380954, -3113426860847315412, 3394213895254683013, -1498860133718013353, 610423239399616944, -4282650789573079422, 2224989966528919003, 1398304963740838225, 7905945719842836650, -4033157597764716541, 5122155063987770581, -6816948253619782610, 6736721791117072640, -5202381526490480551, -3093098153372850254, -7986172182345546620, -1478531426243548195, -6371605455216244561, -1038752882999407468, 5468887873102590957, -6470215444504962234, 7083454600231893016, -4855648717375660175, 4299663944376826947, -7639439373230726244, 5914230671506129006, -6024872646101424185, -3915589272983793888, -8808663301956490254, -3904773106936748330, 2602867649165250095, 4712151022282880392, -180923006689815974, 6326717749412182451, 1433643720439486085, 7941284476541484510, -1350146935415579984, 5157493820686418441, -6781609496921134750, 6772060547815720500, -6341830953676994023, 165809802425004402, -4727264226547691964, 1780376529554306461, 3889659902671936758, -1003414126300759608, 5504226629801238817, 611152600828542451, 2720435973946172748, -9218667343661380443, 4335002701075474807, -4380531417432871588, -2271248044315241291, -7164322073287937657, -656681317185939232, 5850959438916059193, -3440471973041005301, 3067168783060993124, -1825905245911703242, 4681735510190295183, -211338518782401183, 1897944854335229114, 1071259851547148336, 7578900607649146761, -4360202709958406430, 9193467334778448820, -7143993365813472499, 6409676678923382751, -5529426638684170440, 978214117417827985, -8313217294539236509, -1805576538437238084, -6698650567409934450, 3032559387791270771, -8906543929816282420, -6797260556698652123, 6756409488038203127, -5182693829569350064, 8370976215167505186, -7966484485424416133, 5587185559312439117, -6351917758295114074, 155722997806884351, -9135708414150180143]
def h6 : List Int := [-5502887063804618746, 8050782980932236504, -3888320336675316687, -1779036963557686390, -6672110992530382756, -164470236428384331, -5057544265401080697, -2948260892283450400, 3559379863818548025, -1333694165154148341, 5173946590947850084, 4347261588159769306, -7591841729447783885, 1563470932304703237, 8071111688406701662, 3178037659434005296, -8761065658173547895, -6651782285055917598, 6901887759680937652, -5037215557926615539, 8516454486810239711, -7821006213781681608, 1910203741419523613, 8417844497521522038, 3524770468548825672, 5634053841666455969, 740979812693759603, 7248620568795758028, 2355546539823061662, 4464829912940691959, -7474273404666861232, 6079396640069994018, -5859706677537559173, -526854105320722080, 5980786650781276345, 1087712621808579979, 7595353377910578404, 2702279348937882038, 4811562722055512335, -81511306917184031, 6426129449184814394, -5512973868422738797, 3642338793329748325, -8296764524277804866, -3392874329258062942, 3114766426843935483, -1778307602128760883, 330975770988869414, -4562098257983826952, 1945542498118171473, -2947531530854524893, -838248157736894596, 5669392598365103829, 776318569392407463, 7283959325494405888, -5829932175998308635, 7723737868738546615, -4215365448869006576, 2292275307232991849, -6999156104724072645, -491515348622074220, -5384589377594770586, 1123051378507227839, 3232334751624858136, -1660739277347838230, 4846901478754160195, 4020216475966079417, -7918886841641473774, 5634783203095381476, 7744066576213011773, 2850992547240315407, -9088110770367237784, -2580470014265239359, 6574842647487247763, -5364260670120305428, 8189409374616549822, -3749693942991003369, 1583158629225833724, 8090799385327832149, 3197725356355135783, -8741377961252417408, 413934700500069714, 6921575456602068139, -5017527861005485052, 8536142183731370198, -3402961133876182993, 5752351527876304129, -6186751789731249062, -9171710710431772755, -16398048679285633, 6491242707422712792, 1598168678450016426, 8105809434552014851, -8231651266039906468, 5322018778696948782, -6617084538910604409, 6936585505826250841, 9045868878943881138, -2893234438663672053, -3719919441451752831, 2787721314650245594, -2105352714322450772, 4402288041779547653, -4889143370177516841, 1618497385924481584, -3274576643048214782, 3233064113053783643, 5342347486171413940, 449273457198717574, 6956914213300715999, -1758619905207630396, 7396692756544856726, -4542410561062696465, 1965230195039301960, -2927843833933394406, -818560460815764109, -5711634489788460475, 796006266313537950, 7303647022415536375, -1987784389541528119, 4519856366560470306]
def h7 : List Int := [-7597901090781312627, -5488617717663682330, 8065052327073172920, -3874050990534380271, 2633589765567618154, -6657841646389446340, -150200890287447915, -5043274919260144281, 1464365836841854144, -7827065575115210350, -1319424819013211925, 8411785136187993296, -3527318181419559895, 5627994480332927227, -6311108837274625964, 196531918827372461, -4696542110145323905, -2587258737027693608, -7480332766000389974, -972692009898391549, -5865766038871087915, 641874717230910510, -184810285557170268, 1924473087560460029, 8432113843662458454, 3539039814689762088, -8400063502917791103, 755249158834696019, 7262889914936694444, 2369815885963998078, 8877456642065996503, -3061646675541556688, 6093665986210930434, 3108707065510406741, -8830396252097146450, 324916409655340672, 6832557165757339097, 1939483136784642731, 8447123892886641156, -7890336807705280163, 5663333237031575087, -6275770080575978104, 7277899964160877146, -9059560736431044173, -5487888356234756823, -3378604983117126526, -8271679012089822892, -1764038255987824467, 4743602500114173958, -4547828911842890536, 1959811844259107889, -2933262184713588477, 3574378571388409948, -5717052840568654546, 790587915533343879, -7924946202975002516, -1417305446873004091, 7738007214879483031, -4201096102728070160, 2306544653373928265, -2586529375598768101, -477246002481137804, -5370320031453834170, 1137320724648164255, -3755753304324532111, -1646469931206901814, 8084740023994303407, -3854363293613249784, -8747437322585946150, -2239796566483947725, -130513193366317428, -5023587222339013794, 1484053533762984631, -3409020495209711735, -1299737122092081438, -6192811151064777804, 314829605037220621, 5218719800056962545, 7328003173174592842, 2434929144201896476, 8942569900303894901, 4049495871331198535, -7889607446276354656, -5780324073158724359, 7773345971578130891, -4165757346029422300, -9058831375002118666, -6949548001884488369, 2781661953316716852, -9157441364290836339, 4396228680446018911, 6505512053563649208, 1612438024590952842, 8120078780692951267, -3819024536914601924, 5336288124837885198, -6602815192769667993, 6950854851967187257, -4988248465640365934, -5814933468428446712, 692707287673551713, -8598724124283512781, -2091083368181514356, 4416557387920484069, -476516641052212297, 1632766732065418000, -3260307296907278366, 3247333459194720059, -1645740569777976307, 463542803339653990, -8251991315168692405, -1744350559066693980, -6637424588039390346, -4528141214921760049, 1979499541180238376, -2913574487792457990, 3594066268309540435, -5697365143647524059, 810275612454474366, -4082798416518222000, 2424842339583776425]
def h8 : List Int := [1659306306944969694, -3233767722027726672, 3273873034074271753, -1619200994898424613, 490082378219205684, 6997723134321204109, 2104649105348507743, 8612289861450506168, 3719215832477809802, 5828499205595440099, 935425176622743733, 3620605843189092129, -1272468185783604237, 836815187334026060, -4056258841638670306, 2451381914463328119, 8959022670565326544, -332408741391737950, 6175232014710260475, 1282157985737564109, 7789798741839562534, -1501632670117501960, -4975989578556071435, 4179323083196415687, -7759780234411137504, -1252139478309139079, -6145213507281835445, -4035930134164205148, -8929004163136901514, -2421363407034903089, -7314437436007599455, -5205154062889969158, 1302486693212029267, -7413047425296317128, 6140622619440538122, 8249905992558168419, -3689197325049384772, -8582271354022081138, -2074630597920082713, 7080682063832404409, -4858421253775148782, 8695248790961706468, -3243854526645846723, -1134571153528216426, 3769319041491525498, -1123754987481170868, 5383885768620827557, 490811739648131191, 2600095112765761488, 9107735868867759913, 4214661839895063547, -7724441477712489644, 1430871184039997478, 7938511940141995903, -4000591377465557288, 5730618577735647933, -3560812834221416561, 2946827921880581864, -1946246107092114502, 4561394649009883923, -7377708668597669268, 1777603993154817854, 8285244749256816279, 3392170720284119913, -8546932597323433278, 608380064429053844, 3293560730995402240, -1599513297977294126, 4908127458124704299, -4383303953832360195, 2124336802269638230, 8631977558371636655, 3738903529398940289, 5848186902516570586, 955112873543874220, 7462753629645872645, 2569679600673176279, -5303034690749761324, 8250635353987093926, -8086825346604827393, -1579184590502828968, -6472258619475525334, 35382136626473091, 9190694798378960213, -2748408519228592978, -7641482548201289344, -1133841792099290919, 975441581018339378, -2009517339682184315, -6902591368654880681, -4793307995537250384, 8760362049199604866, -3178741268407948325, -8071815297380644691, -1564174541278646266, 545108831838984031, -4347965197133712335, 2159675558968286090, -2733398470004410276, 7840631312282203737, -1450800099674860757, 5056840656427137668, 163766627454441302, 6671407383556439727, 8780690756674070024, 3887616727701373658, -8051486589906179533, 5502183454830675717, -6436919862776877474, -4327636489659247177, 5403573465541958044, 510499436569261678, 7018140192671260103, -2273291219285804391, 4234349536816194034, -7704753780791359157, 5848916263945496093, 7958199637063126390, 3065125608090430024, -8873977709517123167, 4679692335219732083]
def h9 : List Int := [-435707720031724187, 6071933036070274238, 1178859007097577872, 3288142380215208169, -1604931648757488197, 4902709107344510228, -7036394210263042963, 2118918451489444159, 8626559207591442584, 3733485178618746218, -8205618138988806973, -2872765566771969880, 3634875189330028545, -1258198839642667821, 5249441916459330604, -4041989495497733890, 2465651260604264535, -2427422768368431831, 4080217987733566594, 6189501360851196891, 1296427331878500525, 7804068087980498950, 6977383085192418172, -4961720232415135019, 8591949812321720231, -7745510888270201088, -1237870132168202663, -6130944161140899029, 376696594961099396, -8914734816995965098, -2407094060893966673, -7300168089866663039, -792527333764664614, -8175843637449556435, 5377826407287298815, -6561276910320254376, -4451993537202624079, 9101676507534231171, -2837426810073322020, -7730500839046018386, -1222860082944019961, 886423290173610336, -4006650738799086030, 2500990017302912395, -6214544101205434000, 2940768560547053122, -8998334757060500069, -2490694000958501644, -7383768029931198010, -5274484656813567713, 8279185387923287537, -3659917929684265654, -8552991958656962020, -6443708585539331723, 63932170562666702, -762752832225414076, 5744887923876584349, 851813894903887983, 7359454651005886408, -1931976760951178086, 4575663995150820339, -7363439322456732852, 6190230722280122398, 8299514095397752695, 3406440066425056329, -8532663251182496862, 1198546704018708359, 3307830077136338656, -1585243951836357710, 4922396804265640715, 29322775292944349, 2138606148410574646, -2754467880562121720, 3753172875539876705, -8185930442067676486, 969382219684810636, 7477022975786809061, -6065830902903000631, 441809853198997794, -4451264175773698572, -2341980802656068275, -7235054831628764641, -727414075526766216, -5620488104499462582, -3511204731381832285, 2996436024720166140, -1896638004252530226, 4611002751849468199, -8502888749643246324, -1995247993541247899, -6888322022513944265, -380681266411945840, -5273755295384642206, -3164471922267011909, -8057545951239708275, -1549905195137709850, 4957735560964288575, -4333695850992775919, 2173944905109222506, 1347259902321141728, 7854900658423140153, 2961826629450443787, 5071110002568074084, 178035973595377718, 6685676729697376143, -5253426587910177048, 8300243456826678202, -8037217243765243117, 5516452800971612133, -6422650516635941058, 3308559438565264163, 5417842811682894460, 524768782710198094, 7032409538812196519, 2139335509839500153, 4248618882957130450, -7690484434650422741, 5863185610086432509, -6075917707521120682, 3079394954231366440, -8859708363376186751]
def h10 : List Int := [4393002003565240939, -7546101314042312252, -1038460557940313827, 8116852103812173295, -3822251213795379896, -8715325242768076262, -2207684486666077837, 6947628175086409285, -4991475142521143906, 1516165613580854519, -3376908415391841847, 6354301539809363374, 8463584912926993671, -3475518404680559520, -8368592433653255886, -1860951677551257461, 7294360984201229661, -4644742333406323530, 8908927711330531720, -3030175606277021471, -920892233159391174, -5813966262132087540, 4760063520154526473, -133010508818169893, 6374630247283828532, 1481556218311132166, 3590839591428762463, -1302234437543933903, 5205406318558064522, -6733696999049488669, 2421615662702998453, 8929256418804996878, 4036182389832300512, -3347133913852591309, 3160506842249407116, -1732567186723289250, 4775073569378709175, 6884356942496339472, 1991282913523643106, 8498923669625641531, 3605849640652945165, 5715133013770575462, 822058984797879096, 7329699740899877521, 6503014738111796743, -5436088579495756448, 1071552176606241977, -8219879235350822517, -1712238479248824092, -6605312508221520458, -97671752119522033, 2011611620998108264, -2881462407974588102, 3626178348127410323, -1266895680845286043, 4065956891371551050, -7873146426236002141, -1365505670134003716, -6258579699106700082, -4149296325989069785, -9042370354961766151, -2534729598859767726, -7427803627832464092, -920162871730465667, 1189120501387164630, -3703953527585531736, 6870076254701082277, 1977002225728385911, 8484642981830384336, -806788430126680158, 5700852325975318267, -6238250991632234924, 7315419053104620326, -4623684264502932865, 4531628397249554257, -7407474920357998934, 6146195124378856316, 8831375790945204712, -460055621011859782, 6047585135090138643, 1154511106117442277, 7662151862219440702, -1629279549737623792, 4878361206364374633, -7060742111243178558, 6492927933493676692, 8602211306611306989, 3709137277638610623, 724178356938086930, 2833461730055717227, -2059612298916979139, 4448028457185019286, -7491074860422533905, 1664237801329953217, 8171878557431951642, 3278804528459255276, -8660298789148297915, 495013872604189207, 7002654628706187632, 6175969625918106854, -5763133691689446337, 744507064412552088, -4148566964560144278, -2039283591442513981, -6932357620415210347, -424716864313211922, 6082923891788786503, -3208507520168277991, 3299133235933720434, -1593940793038975932, 8137269162162229289, -3801834155445323902, -1692550782327693605, -6585624811300389971, -77984055198391546, -4971058084171087912, -2861774711053457615, -7754848740026153981, -1247207983924155556, 5260432772177842869, -4030998639779221625]
def hs : List Int := h0 ++ h1 ++ h2 ++ h3 ++ h4 ++ h5 ++ h6 ++ h7 ++ h8 ++ h9 ++ h10
theorem hs_eq : (boxL 10 3).map hT = hs := by decide +kernel
def buck (n : Nat) (l : List Int) : Bool := (List.range n).all fun r => decide ((l.filter fun x => decide (x % (n : Int) = (r : Int))).Nodup)
theorem nodup_of_buck {n : Nat} (hn : 0 < n) {l : List Int} (h : buck n l = true) : l.Nodup := by
  refine List.nodup_iff_count.mpr fun a => ?_
  have h0 := Int.emod_nonneg a (show (n : Int) ≠ 0 by omega)
  have h1 := Int.emod_lt_of_pos a (show (0 : Int) < n by omega)
  have h2 := List.all_eq_true.mp h (a % (n : Int)).toNat (List.mem_range.mpr (by omega))
  have h3 : (l.filter fun x => decide (x % (n : Int) = (((a % (n : Int)).toNat : Nat) : Int))).Nodup := of_decide_eq_true h2
  have h4 := List.nodup_iff_count.mp h3 a
  rw [List.count_filter (by simp; omega)] at h4
  exact h4
theorem hs_nodup : hs.Nodup := nodup_of_buck (n := 64) (by decide) (by decide +kernel)
theorem box3 : ((boxL 10 3).map hT).Nodup := by rw [hs_eq]; exact hs_nodup
theorem box2 : ((boxL 10 2).map hT).Nodup := by decide +kernel
theorem box1 : ((boxL 10 1).map hT).Nodup := by decide +kernel
theorem box0 : ((boxL 10 0).map hT).Nodup := by decide +kernel
theorem boxN {d : Nat} (h : d ≤ 3) : ((boxL 10 d).map hT).Nodup := by
  match d, h with
  | 0, _ => exact box0
  | 1, _ => exact box1
  | 2, _ => exact box2
  | 3, _ => exact box3
theorem inj_of {α β : Type} {f : α → β} {l : List α} (h : (l.map f).Nodup) {a b : α} (ha : a ∈ l) (hb : b ∈ l) (e : f a = f b) : a = b := by
  obtain ⟨i, hi, rfl⟩ := List.mem_iff_getElem.mp ha
  obtain ⟨j, hj, rfl⟩ := List.mem_iff_getElem.mp hb
  have : (l.map f)[i]'(by simpa using hi) = (l.map f)[j]'(by simpa using hj) := by rw [List.getElem_map, List.getElem_map]; exact e
  have e2 := (List.getElem_inj h).mp this
  subst e2; rfl
/-- of a box: no two hashes alike -/
theorem hash_nodup {d : Nat} (hd : d ≤ 3) {l : List T} (hn : l.Nodup) (hb : ∀ k ∈ l, Box 10 d k) : (l.map hT).Nodup := by
  refine List.pairwise_map.mpr (List.Pairwise.imp_of_mem (fun {a b} ha hb' hne e => hne ?_) hn)
  exact inj_of (boxN hd) (mem_boxL.mpr (hb a ha)) (mem_boxL.mpr (hb b hb')) e
end HT
namespace K96
open PySem PySem.Spec PyProof.Rows L2 Dn
def top (i : Nat) : Stmt := PySem.Challenge.pw_coinmaster_k96_whole_queues_served.main.body.getD i (.Pass ⟨0, 0, 0, 0⟩)
def tfs : List Str := ["law"]
structure Fx (K : PySem.W.Frag) (mg : Str → Option Value) : Prop where
  f_is_whole : Fn1 K mg "is_whole" (top 10)
  f_fits_whole : Fn1 K mg "fits_whole" (top 11)
  f_is_tuple_of : Fn1 K mg "is_tuple_of" (top 12)
  f_is_rising : Fn1 K mg "is_rising" (top 13)
  f_fits_coins : Fn1 K mg "fits_coins" (top 14)
  f_need_coins : Fn1 K mg "need_coins" (top 15)
  f_sum_in : Fn1 K mg "sum_in" (top 16)
  f_need_few : Fn1 K mg "need_few" (top 23)
  f_fits_till : Fn1 K mg "fits_till" (top 24)
  f_fits_payer : Fn1 K mg "fits_payer" (top 25)
  f_fits_payers : Fn1 K mg "fits_payers" (top 26)
  f_need_queue : Fn1 K mg "need_queue" (top 27)
  f_with_given : Fn1 K mg "with_given" (top 28)
  f_without : Fn1 K mg "without" (top 29)
  f_changes : Fn1 K mg "changes" (top 30)
  f_layers_in : Fn1 K mg "layers_in" (top 31)
  f_plan_in : Fn1 K mg "plan_in" (top 32)
  f_fits_plan : Fn1 K mg "fits_plan" (top 33)
  f_served_many : Fn1 K mg "served_many" (top 34)
  f_change_plan : Fn1 K mg "change_plan" (top 35)
  f_is_plan : Fn1 K mg "is_plan" (top 36)
  f_till_behind : Fn1 K mg "till_behind" (top 37)
  f_tills_many : Fn1 K mg "tills_many" (top 38)
  f__law_cup : Fn1 K mg "_law_cup" (top 40)
  f__law_roll : Fn1 K mg "_law_roll" (top 41)
  f__law_some : Fn1 K mg "_law_some" (top 42)
  f__law_same : Fn1 K mg "_law_same" (top 43)
  f__law_coins : Fn1 K mg "_law_coins" (top 44)
  f__law_sum : Fn1 K mg "_law_sum" (top 45)
  f__law_payers : Fn1 K mg "_law_payers" (top 46)
  f__law_heaps : Fn1 K mg "_law_heaps" (top 47)
  f__law_tills : Fn1 K mg "_law_tills" (top 48)
  f__law_served : Fn1 K mg "_law_served" (top 49)
  f__law_is_plan : Fn1 K mg "_law_is_plan" (top 50)
  f_law : Fn1 K mg "law" (top 51)
  b_isinstance : mg "isinstance" = none
  b_int : mg "int" = none
  b_bool : mg "bool" = none
  b_tuple : mg "tuple" = none
  b_len : mg "len" = none
  b_all : mg "all" = none
  b_zip : mg "zip" = none
  b_sum : mg "sum" = none
  b_range : mg "range" = none
  b_min : mg "min" = none
  b_abs : mg "abs" = none
  b_list : mg "list" = none
  b_str : mg "str" = none
  b_sorted : mg "sorted" = none
  b_max : mg "max" = none
  b_dict : mg "dict" = none
  i_VALUES : ∃ t, mg "VALUES" = some (.int 5000 t)
  i_KINDS : ∃ t, mg "KINDS" = some (.int 12 t)
  i_FEW : ∃ t, mg "FEW" = some (.int 5 t)
  i_HOLD : ∃ t, mg "HOLD" = some (.int 12 t)
  i_PAYERS : ∃ t, mg "PAYERS" = some (.int 8 t)
  i_PRICE : ∃ t, mg "PRICE" = some (.int 1000 t)
  i_STATES : ∃ t, mg "STATES" = some (.int 3000 t)
  g_InvalidCoins : mg "InvalidCoins" = some (.ref (He.ga K "InvalidCoins"))
  g_InvalidDebts : mg "InvalidDebts" = some (.ref (He.ga K "InvalidDebts"))
  g_InvalidHeap : mg "InvalidHeap" = some (.ref (He.ga K "InvalidHeap"))
  g_InvalidPaper : mg "InvalidPaper" = some (.ref (He.ga K "InvalidPaper"))
  g_TooMany : mg "TooMany" = some (.ref (He.ga K "TooMany"))
  r_InvalidCoins : ExcK K mg "InvalidCoins"
  r_InvalidHeap : ExcK K mg "InvalidHeap"
  r_InvalidDebts : ExcK K mg "InvalidDebts"
  r_InvalidPaper : ExcK K mg "InvalidPaper"
  tab : tabX K tfs = true
/-! ### is_whole -/
theorem sc_is_whole : FnScope ["value"] ["value"] (defScope (top 10)) := ⟨rfl, rfl, rfl, by decide +kernel, rfl, by decide +kernel, by decide +kernel⟩
@[irreducible] noncomputable def b_is_whole : FS := (sRet (andE (eL isiD (aCons (gv 0) (aCons (cst (.ty "int")) aNil))) (notE (eL isiD (aCons (gv 0) (aCons (cst (.ty "bool")) aNil))))))
noncomputable def F_is_whole : FF := runF 1 (b_is_whole)
theorem ok_is_whole {P : Program} {w : World} {K : PySem.W.Frag} {mg : Str → Option Value} {base : Heap} (S : Fx K mg) (T : Tx K mg base tfs) : FOk P w K mg base 1 "is_whole" 1 F_is_whole := by
  have sc := sc_is_whole
  have hN := sc.nd
  refine (Fn1.ok (k := 0) S.f_is_whole sc rfl (fun cdv A outer s H E f hr tk hp => ?_) (fun _ _ _ _ _ _ us hl => match us, hl with | [_], _ => rfl))
  have hu := hr.units
  have hu5 := room65 hr
  exact (by unfold b_is_whole; exact (dss_one (ds_ret (de_and (de_callB callD_isi S.b_isinstance rfl (da_cons (de_v 0) (da_cons (de_ty S.b_int rfl) da_nil))) (de_one (de_not (de_callB callD_isi S.b_isinstance rfl (da_cons (de_v 0) (da_cons (de_ty S.b_bool rfl) da_nil)))))))))
/-! ### fits_whole -/
theorem sc_fits_whole : FnScope ["value", "low", "high"] ["value", "low", "high"] (defScope (top 11)) := ⟨rfl, rfl, rfl, by decide +kernel, rfl, by decide +kernel, by decide +kernel⟩
@[irreducible] noncomputable def b_fits_whole : FS := (sRet (andE (eCall 1 F_is_whole (aCons (gv 0) aNil)) (chn leI leI (gv 1) (gv 0) (gv 2))))
noncomputable def F_fits_whole : FF := runF 3 (b_fits_whole)
theorem ok_fits_whole {P : Program} {w : World} {K : PySem.W.Frag} {mg : Str → Option Value} {base : Heap} (S : Fx K mg) (T : Tx K mg base tfs) : FOk P w K mg base 2 "fits_whole" 3 F_fits_whole := by
  have c_is_whole := ok_is_whole (P := P) (w := w) (base := base) S T
  have sc := sc_fits_whole
  have hN := sc.nd
  refine (Fn1.ok (k := 1) S.f_fits_whole sc rfl (fun cdv A outer s H E f hr tk hp => ?_) (fun _ _ _ _ _ _ us hl => match us, hl with | [_, _, _], _ => rfl))
  have hu := hr.units
  have hu5 := room65 hr
  exact (by unfold b_fits_whole; exact (dss_one (ds_ret (de_and (de_callF c_is_whole tk (hr.mono (by omega)) (da_cons (de_v 0) da_nil)) (de_one (de_chain opD_le opD_le (de_v 1) (de_v 0) (de_v 2)))))))
/-! ### is_tuple_of -/
theorem sc_is_tuple_of : FnScope ["value", "least", "most"] ["value", "least", "most"] (defScope (top 12)) := ⟨rfl, rfl, rfl, by decide +kernel, rfl, by decide +kernel, by decide +kernel⟩
@[irreducible] noncomputable def b_is_tuple_of : FS := (sRet (andE (eL isiD (aCons (gv 0) (aCons (cst (.ty "tuple")) aNil))) (chn leI leI (gv 1) (eL lenD (aCons (gv 0) aNil)) (gv 2))))
noncomputable def F_is_tuple_of : FF := runF 3 (b_is_tuple_of)
theorem ok_is_tuple_of {P : Program} {w : World} {K : PySem.W.Frag} {mg : Str → Option Value} {base : Heap} (S : Fx K mg) (T : Tx K mg base tfs) : FOk P w K mg base 1 "is_tuple_of" 3 F_is_tuple_of := by
  have sc := sc_is_tuple_of
  have hN := sc.nd
  refine (Fn1.ok (k := 0) S.f_is_tuple_of sc rfl (fun cdv A outer s H E f hr tk hp => ?_) (fun _ _ _ _ _ _ us hl => match us, hl with | [_, _, _], _ => rfl))
  have hu := hr.units
  have hu5 := room65 hr
  exact (by unfold b_is_tuple_of; exact (dss_one (ds_ret (de_and (de_callB callD_isi S.b_isinstance rfl (da_cons (de_v 0) (da_cons (de_ty S.b_tuple rfl) da_nil))) (de_one (de_chain opD_le opD_le (de_v 1) (de_callB callD_len S.b_len rfl (da_cons (de_v 0) da_nil)) (de_v 2)))))))
/-! ### is_rising -/
theorem sc_is_rising : FnScope ["values", "one", "other"] ["values"] (defScope (top 13)) := ⟨rfl, rfl, rfl, by decide +kernel, rfl, by decide +kernel, by decide +kernel⟩
@[irreducible] noncomputable def b_is_rising : FS := (sRet (eL allD (aCons (lc fuel [1, 2] (iZip (aCons (gv 0) (aCons (eSl slD (gv 0) (oSome (cst (.int 1))) oNone) aNil))) (bT [(bN 1), (bN 2)]) yes (e2 ltI (gv 1) (gv 2))) aNil)))
noncomputable def F_is_rising : FF := runF 3 (b_is_rising)
theorem ok_is_rising {P : Program} {w : World} {K : PySem.W.Frag} {mg : Str → Option Value} {base : Heap} (S : Fx K mg) (T : Tx K mg base tfs) : FOk P w K mg base 1 "is_rising" 1 F_is_rising := by
  have sc := sc_is_rising
  have hN := sc.nd
  refine (Fn1.ok (k := 0) S.f_is_rising sc rfl (fun cdv A outer s H E f hr tk hp => ?_) (fun _ _ _ _ _ _ us hl => match us, hl with | [_], _ => rfl))
  have hu := hr.units
  have hu5 := room65 hr
  exact (by unfold b_is_rising; exact (dss_one (ds_ret (de_callB (callD_all rfl) S.b_all rfl (da_cons (de_lc rfl hN (di_zip S.b_zip (da_cons (de_v 0) (da_cons (de_slice slD_ok (de_v 0) (do_some de_int) do_none) da_nil))) (blkOk_by (own := [("one", 1), ("other", 2)]) (by kernel_rfl)) (fun _ _ _ _ _ => (dg_t rfl (dgs_cons (dg_n 1 hN) (dgs_cons (dg_n 2 hN) dgs_nil)))) (fun _ _ _ _ _ => dts_nil) (fun _ _ _ _ _ => (de_cmp opD_lt (de_v 1) (de_v 2)))) da_nil)))))
/-! ### fits_coins -/
theorem sc_fits_coins : FnScope ["value", "one"] ["value"] (defScope (top 14)) := ⟨rfl, rfl, rfl, by decide +kernel, rfl, by decide +kernel, by decide +kernel⟩
@[irreducible] noncomputable def b_fits_coins : FS := (sRet (andE (eCall 3 F_is_tuple_of (aCons (gv 0) (aCons (cst (.int 1)) (aCons (cst (.int 12)) aNil)))) (andE (eL allD (aCons (lc fuel [1] (iVal (gv 0)) (bN 1) yes (eCall 3 F_fits_whole (aCons (gv 1) (aCons (cst (.int 1)) (aCons (cst (.int 5000)) aNil))))) aNil)) (eCall 1 F_is_rising (aCons (gv 0) aNil)))))
noncomputable def F_fits_coins : FF := runF 2 (b_fits_coins)
theorem ok_fits_coins {P : Program} {w : World} {K : PySem.W.Frag} {mg : Str → Option Value} {base : Heap} (S : Fx K mg) (T : Tx K mg base tfs) : FOk P w K mg base 3 "fits_coins" 1 F_fits_coins := by
  have c_fits_whole := ok_fits_whole (P := P) (w := w) (base := base) S T
  have c_is_rising := ok_is_rising (P := P) (w := w) (base := base) S T
  have c_is_tuple_of := ok_is_tuple_of (P := P) (w := w) (base := base) S T
  have sc := sc_fits_coins
  have hN := sc.nd
  refine (Fn1.ok (k := 2) S.f_fits_coins sc rfl (fun cdv A outer s H E f hr tk hp => ?_) (fun _ _ _ _ _ _ us hl => match us, hl with | [_], _ => rfl))
  have hu := hr.units
  have hu5 := room65 hr
  exact (by unfold b_fits_coins; exact (dss_one (ds_ret (de_and (de_callF c_is_tuple_of tk (hr.mono (by omega)) (da_cons (de_v 0) (da_cons de_int (da_cons (de_gint S.i_KINDS) da_nil)))) (de_and (de_callB (callD_all rfl) S.b_all rfl (da_cons (de_lc rfl hN (di_val (de_v 0)) (blkOk_by (own := [("one", 1)]) (by kernel_rfl)) (fun _ _ _ _ _ => (dg_n 1 hN)) (fun _ _ _ _ _ => dts_nil) (fun _ _ _ _ _ => (de_callF c_fits_whole tk0 (hr.mono (by omega)) (da_cons (de_v 1) (da_cons de_int (da_cons (de_gint S.i_VALUES) da_nil)))))) da_nil)) (de_one (de_callF c_is_rising tk (hr.mono (by omega)) (da_cons (de_v 0) da_nil))))))))
/-! ### need_coins -/
theorem sc_need_coins : FnScope ["value"] ["value"] (defScope (top 15)) := ⟨rfl, rfl, rfl, by decide +kernel, rfl, by decide +kernel, by decide +kernel⟩
@[irreducible] noncomputable def b_need_coins : FS := (sIf (notT (tru (eCall 1 F_fits_coins (aCons (gv 0) aNil)))) noS sNil)
noncomputable def F_need_coins : FF := runF 1 (b_need_coins)
theorem ok_need_coins {P : Program} {w : World} {K : PySem.W.Frag} {mg : Str → Option Value} {base : Heap} (S : Fx K mg) (T : Tx K mg base tfs) : FOk P w K mg base 4 "need_coins" 1 F_need_coins := by
  have c_fits_coins := ok_fits_coins (P := P) (w := w) (base := base) S T
  have sc := sc_need_coins
  have hN := sc.nd
  refine (Fn1.ok (k := 3) S.f_need_coins sc rfl (fun cdv A outer s H E f hr tk hp => ?_) (fun _ _ _ _ _ _ us hl => match us, hl with | [_], _ => rfl))
  have hu := hr.units
  have hu5 := room65 hr
  exact (by unfold b_need_coins; exact (dss_one (ds_if (dt_not (dt_tru (de_callF c_fits_coins tk (hr.mono (by omega)) (da_cons (de_v 0) da_nil)))) (dss_one ds_no) dss_nil)))
/-! ### sum_in -/
theorem sc_sum_in : FnScope ["coins", "heap", "value", "many"] ["coins", "heap"] (defScope (top 16)) := ⟨rfl, rfl, rfl, by decide +kernel, rfl, by decide +kernel, by decide +kernel⟩
@[irreducible] noncomputable def b_sum_in : FS := (sRet (eL sumD (aCons (lc fuel [2, 3] (iZip (aCons (gv 0) (aCons (gv 1) aNil))) (bT [(bN 2), (bN 3)]) yes (e2 mulD (gv 2) (gv 3))) aNil)))
noncomputable def F_sum_in : FF := runF 4 (b_sum_in)
theorem ok_sum_in {P : Program} {w : World} {K : PySem.W.Frag} {mg : Str → Option Value} {base : Heap} (S : Fx K mg) (T : Tx K mg base tfs) : FOk P w K mg base 1 "sum_in" 2 F_sum_in := by
  have sc := sc_sum_in
  have hN := sc.nd
  refine (Fn1.ok (k := 0) S.f_sum_in sc rfl (fun cdv A outer s H E f hr tk hp => ?_) (fun _ _ _ _ _ _ us hl => match us, hl with | [_, _], _ => rfl))
  have hu := hr.units
  have hu5 := room65 hr
  exact (by unfold b_sum_in; exact (dss_one (ds_ret (de_callB (callD_sum rfl) S.b_sum rfl (da_cons (de_lc rfl hN (di_zip S.b_zip (da_cons (de_v 0) (da_cons (de_v 1) da_nil))) (blkOk_by (own := [("value", 2), ("many", 3)]) (by kernel_rfl)) (fun _ _ _ _ _ => (dg_t rfl (dgs_cons (dg_n 2 hN) (dgs_cons (dg_n 3 hN) dgs_nil)))) (fun _ _ _ _ _ => dts_nil) (fun _ _ _ _ _ => (de_op opD_mul (de_v 2) (de_v 3)))) da_nil)))))
/-! ### need_few -/
theorem sc_need_few : FnScope ["coins"] ["coins"] (defScope (top 23)) := ⟨rfl, rfl, rfl, by decide +kernel, rfl, by decide +kernel, by decide +kernel⟩
@[irreducible] noncomputable def b_need_few : FS := (sSeq (sExp (eCall 1 F_need_coins (aCons (gv 0) aNil)))
    (sIf (tst (e2 gtI (eL lenD (aCons (gv 0) aNil)) (cst (.int 5)))) noS sNil))
noncomputable def F_need_few : FF := runF 1 (b_need_few)
theorem ok_need_few {P : Program} {w : World} {K : PySem.W.Frag} {mg : Str → Option Value} {base : Heap} (S : Fx K mg) (T : Tx K mg base tfs) : FOk P w K mg base 5 "need_few" 1 F_need_few := by
  have c_need_coins := ok_need_coins (P := P) (w := w) (base := base) S T
  have sc := sc_need_few
  have hN := sc.nd
  refine (Fn1.ok (k := 4) S.f_need_few sc rfl (fun cdv A outer s H E f hr tk hp => ?_) (fun _ _ _ _ _ _ us hl => match us, hl with | [_], _ => rfl))
  have hu := hr.units
  have hu5 := room65 hr
  exact (by unfold b_need_few; exact (dss_cons (ds_exp (de_callF c_need_coins tk (hr.mono (by omega)) (da_cons (de_v 0) da_nil)))
    (dss_one (ds_if (dt_cmp opD_gt (de_callB callD_len S.b_len rfl (da_cons (de_v 0) da_nil)) (de_gint S.i_FEW)) (dss_one ds_no) dss_nil))))
/-! ### fits_till -/
theorem sc_fits_till : FnScope ["coins", "value", "one"] ["coins", "value"] (defScope (top 24)) := ⟨rfl, rfl, rfl, by decide +kernel, rfl, by decide +kernel, by decide +kernel⟩
@[irreducible] noncomputable def b_fits_till : FS := (sRet (andE (eCall 3 F_is_tuple_of (aCons (gv 1) (aCons (eL lenD (aCons (gv 0) aNil)) (aCons (eL lenD (aCons (gv 0) aNil)) aNil)))) (eL allD (aCons (lc fuel [2] (iVal (gv 1)) (bN 2) yes (eCall 3 F_fits_whole (aCons (gv 2) (aCons (cst (.int 0)) (aCons (cst (.int 12)) aNil))))) aNil))))
noncomputable def F_fits_till : FF := runF 3 (b_fits_till)
theorem ok_fits_till {P : Program} {w : World} {K : PySem.W.Frag} {mg : Str → Option Value} {base : Heap} (S : Fx K mg) (T : Tx K mg base tfs) : FOk P w K mg base 3 "fits_till" 2 F_fits_till := by
  have c_fits_whole := ok_fits_whole (P := P) (w := w) (base := base) S T
  have c_is_tuple_of := ok_is_tuple_of (P := P) (w := w) (base := base) S T
  have sc := sc_fits_till
  have hN := sc.nd
  refine (Fn1.ok (k := 2) S.f_fits_till sc rfl (fun cdv A outer s H E f hr tk hp => ?_) (fun _ _ _ _ _ _ us hl => match us, hl with | [_, _], _ => rfl))
  have hu := hr.units
  have hu5 := room65 hr
  exact (by unfold b_fits_till; exact (dss_one (ds_ret (de_and (de_callF c_is_tuple_of tk (hr.mono (by omega)) (da_cons (de_v 1) (da_cons (de_callB callD_len S.b_len rfl (da_cons (de_v 0) da_nil)) (da_cons (de_callB callD_len S.b_len rfl (da_cons (de_v 0) da_nil)) da_nil)))) (de_one (de_callB (callD_all rfl) S.b_all rfl (da_cons (de_lc rfl hN (di_val (de_v 1)) (blkOk_by (own := [("one", 2)]) (by kernel_rfl)) (fun _ _ _ _ _ => (dg_n 2 hN)) (fun _ _ _ _ _ => dts_nil) (fun _ _ _ _ _ => (de_callF c_fits_whole tk0 (hr.mono (by omega)) (da_cons (de_v 2) (da_cons de_int (da_cons (de_gint S.i_HOLD) da_nil)))))) da_nil)))))))
/-! ### fits_payer -/
theorem sc_fits_payer : FnScope ["coins", "value"] ["coins", "value"] (defScope (top 25)) := ⟨rfl, rfl, rfl, by decide +kernel, rfl, by decide +kernel, by decide +kernel⟩
@[irreducible] noncomputable def b_fits_payer : FS := (sSeq (sIf (orT (notT (tru (eCall 3 F_is_tuple_of (aCons (gv 1) (aCons (cst (.int 2)) (aCons (cst (.int 2)) aNil)))))) (orT (notT (tru (eCall 3 F_fits_whole (aCons (e2 ixD (gv 1) (cst (.int 0))) (aCons (cst (.int 0)) (aCons (cst (.int 1000)) aNil)))))) (notT (tru (eCall 2 F_fits_till (aCons (gv 0) (aCons (e2 ixD (gv 1) (cst (.int 1))) aNil))))))) (sRet (cst (.bl false))) sNil)
    (sRet (e2 geI (eCall 2 F_sum_in (aCons (gv 0) (aCons (e2 ixD (gv 1) (cst (.int 1))) aNil))) (e2 ixD (gv 1) (cst (.int 0))))))
noncomputable def F_fits_payer : FF := runF 2 (b_fits_payer)
theorem ok_fits_payer {P : Program} {w : World} {K : PySem.W.Frag} {mg : Str → Option Value} {base : Heap} (S : Fx K mg) (T : Tx K mg base tfs) : FOk P w K mg base 4 "fits_payer" 2 F_fits_payer := by
  have c_fits_till := ok_fits_till (P := P) (w := w) (base := base) S T
  have c_fits_whole := ok_fits_whole (P := P) (w := w) (base := base) S T
  have c_is_tuple_of := ok_is_tuple_of (P := P) (w := w) (base := base) S T
  have c_sum_in := ok_sum_in (P := P) (w := w) (base := base) S T
  have sc := sc_fits_payer
  have hN := sc.nd
  refine (Fn1.ok (k := 3) S.f_fits_payer sc rfl (fun cdv A outer s H E f hr tk hp => ?_) (fun _ _ _ _ _ _ us hl => match us, hl with | [_, _], _ => rfl))
  have hu := hr.units
  have hu5 := room65 hr
  exact (by unfold b_fits_payer; exact (dss_cons (ds_if (dt_w (dw_or (dt_not (dt_tru (de_callF c_is_tuple_of tk (hr.mono (by omega)) (da_cons (de_v 1) (da_cons de_int (da_cons de_int da_nil)))))) (dw_or (dt_not (dt_tru (de_callF c_fits_whole tk (hr.mono (by omega)) (da_cons (de_ix ixD_seq (de_v 1) de_int) (da_cons de_int (da_cons (de_gint S.i_PRICE) da_nil)))))) (dw_or1 (dt_not (dt_tru (de_callF c_fits_till tk (hr.mono (by omega)) (da_cons (de_v 0) (da_cons (de_ix ixD_seq (de_v 1) de_int) da_nil))))))))) (dss_one (ds_ret de_bl)) dss_nil)
    (dss_one (ds_ret (de_cmp opD_ge (de_callF c_sum_in tk (hr.mono (by omega)) (da_cons (de_v 0) (da_cons (de_ix ixD_seq (de_v 1) de_int) da_nil))) (de_ix ixD_seq (de_v 1) de_int))))))
/-! ### fits_payers -/
theorem sc_fits_payers : FnScope ["coins", "value", "one"] ["coins", "value"] (defScope (top 26)) := ⟨rfl, rfl, rfl, by decide +kernel, rfl, by decide +kernel, by decide +kernel⟩
@[irreducible] noncomputable def b_fits_payers : FS := (sRet (andE (eCall 3 F_is_tuple_of (aCons (gv 1) (aCons (cst (.int 0)) (aCons (cst (.int 8)) aNil)))) (eL allD (aCons (lc fuel [2] (iVal (gv 1)) (bN 2) yes (eCall 2 F_fits_payer (aCons (gv 0) (aCons (gv 2) aNil)))) aNil))))
noncomputable def F_fits_payers : FF := runF 3 (b_fits_payers)
theorem ok_fits_payers {P : Program} {w : World} {K : PySem.W.Frag} {mg : Str → Option Value} {base : Heap} (S : Fx K mg) (T : Tx K mg base tfs) : FOk P w K mg base 5 "fits_payers" 2 F_fits_payers := by
  have c_fits_payer := ok_fits_payer (P := P) (w := w) (base := base) S T
  have c_is_tuple_of := ok_is_tuple_of (P := P) (w := w) (base := base) S T
  have sc := sc_fits_payers
  have hN := sc.nd
  refine (Fn1.ok (k := 4) S.f_fits_payers sc rfl (fun cdv A outer s H E f hr tk hp => ?_) (fun _ _ _ _ _ _ us hl => match us, hl with | [_, _], _ => rfl))
  have hu := hr.units
  have hu5 := room65 hr
  exact (by unfold b_fits_payers; exact (dss_one (ds_ret (de_and (de_callF c_is_tuple_of tk (hr.mono (by omega)) (da_cons (de_v 1) (da_cons de_int (da_cons (de_gint S.i_PAYERS) da_nil)))) (de_one (de_callB (callD_all rfl) S.b_all rfl (da_cons (de_lc rfl hN (di_val (de_v 1)) (blkOk_by (own := [("one", 2)]) (by kernel_rfl)) (fun _ _ _ _ _ => (dg_n 2 hN)) (fun _ _ _ _ _ => dts_nil) (fun _ _ _ _ _ => (de_callF c_fits_payer tk0 (hr.mono (by omega)) (da_cons (de_v 0) (da_cons (de_v 2) da_nil))))) da_nil)))))))
/-! ### need_queue -/
theorem sc_need_queue : FnScope ["coins", "till", "payers"] ["coins", "till", "payers"] (defScope (top 27)) := ⟨rfl, rfl, rfl, by decide +kernel, rfl, by decide +kernel, by decide +kernel⟩
@[irreducible] noncomputable def b_need_queue : FS := (sSeq (sExp (eCall 1 F_need_few (aCons (gv 0) aNil)))
    (sSeq (sIf (notT (tru (eCall 2 F_fits_till (aCons (gv 0) (aCons (gv 1) aNil))))) noS sNil)
    (sIf (notT (tru (eCall 2 F_fits_payers (aCons (gv 0) (aCons (gv 2) aNil))))) noS sNil)))
noncomputable def F_need_queue : FF := runF 3 (b_need_queue)
theorem ok_need_queue {P : Program} {w : World} {K : PySem.W.Frag} {mg : Str → Option Value} {base : Heap} (S : Fx K mg) (T : Tx K mg base tfs) : FOk P w K mg base 6 "need_queue" 3 F_need_queue := by
  have c_fits_payers := ok_fits_payers (P := P) (w := w) (base := base) S T
  have c_fits_till := ok_fits_till (P := P) (w := w) (base := base) S T
  have c_need_few := ok_need_few (P := P) (w := w) (base := base) S T
  have sc := sc_need_queue
  have hN := sc.nd
  refine (Fn1.ok (k := 5) S.f_need_queue sc rfl (fun cdv A outer s H E f hr tk hp => ?_) (fun _ _ _ _ _ _ us hl => match us, hl with | [_, _, _], _ => rfl))
  have hu := hr.units
  have hu5 := room65 hr
  exact (by unfold b_need_queue; exact (dss_cons (ds_exp (de_callF c_need_few tk (hr.mono (by omega)) (da_cons (de_v 0) da_nil)))
    (dss_cons (ds_if (dt_not (dt_tru (de_callF c_fits_till tk (hr.mono (by omega)) (da_cons (de_v 0) (da_cons (de_v 1) da_nil))))) (dss_one ds_no) dss_nil)
    (dss_one (ds_if (dt_not (dt_tru (de_callF c_fits_payers tk (hr.mono (by omega)) (da_cons (de_v 0) (da_cons (de_v 2) da_nil))))) (dss_one ds_no) dss_nil)))))
/-! ### with_given -/
theorem sc_with_given : FnScope ["till", "given", "one", "other"] ["till", "given"] (defScope (top 28)) := ⟨rfl, rfl, rfl, by decide +kernel, rfl, by decide +kernel, by decide +kernel⟩
@[irreducible] noncomputable def b_with_given : FS := (sRet (eL tupleD (aCons (lc fuel [2, 3] (iZip (aCons (gv 0) (aCons (gv 1) aNil))) (bT [(bN 2), (bN 3)]) yes (e2 addD (gv 2) (gv 3))) aNil)))
noncomputable def F_with_given : FF := runF 4 (b_with_given)
theorem ok_with_given {P : Program} {w : World} {K : PySem.W.Frag} {mg : Str → Option Value} {base : Heap} (S : Fx K mg) (T : Tx K mg base tfs) : FOk P w K mg base 1 "with_given" 2 F_with_given := by
  have sc := sc_with_given
  have hN := sc.nd
  refine (Fn1.ok (k := 0) S.f_with_given sc rfl (fun cdv A outer s H E f hr tk hp => ?_) (fun _ _ _ _ _ _ us hl => match us, hl with | [_, _], _ => rfl))
  have hu := hr.units
  have hu5 := room65 hr
  exact (by unfold b_with_given; exact (dss_one (ds_ret (de_callTy callD_tuple S.b_tuple rfl (da_cons (de_lc rfl hN (di_zip S.b_zip (da_cons (de_v 0) (da_cons (de_v 1) da_nil))) (blkOk_by (own := [("one", 2), ("other", 3)]) (by kernel_rfl)) (fun _ _ _ _ _ => (dg_t rfl (dgs_cons (dg_n 2 hN) (dgs_cons (dg_n 3 hN) dgs_nil)))) (fun _ _ _ _ _ => dts_nil) (fun _ _ _ _ _ => (de_op opD_add (de_v 2) (de_v 3)))) da_nil)))))
/-! ### without -/
theorem sc_without : FnScope ["till", "change", "one", "other"] ["till", "change"] (defScope (top 29)) := ⟨rfl, rfl, rfl, by decide +kernel, rfl, by decide +kernel, by decide +kernel⟩
@[irreducible] noncomputable def b_without : FS := (sRet (eL tupleD (aCons (lc fuel [2, 3] (iZip (aCons (gv 0) (aCons (gv 1) aNil))) (bT [(bN 2), (bN 3)]) yes (e2 subD (gv 2) (gv 3))) aNil)))
noncomputable def F_without : FF := runF 4 (b_without)
theorem ok_without {P : Program} {w : World} {K : PySem.W.Frag} {mg : Str → Option Value} {base : Heap} (S : Fx K mg) (T : Tx K mg base tfs) : FOk P w K mg base 1 "without" 2 F_without := by
  have sc := sc_without
  have hN := sc.nd
  refine (Fn1.ok (k := 0) S.f_without sc rfl (fun cdv A outer s H E f hr tk hp => ?_) (fun _ _ _ _ _ _ us hl => match us, hl with | [_, _], _ => rfl))
  have hu := hr.units
  have hu5 := room65 hr
  exact (by unfold b_without; exact (dss_one (ds_ret (de_callTy callD_tuple S.b_tuple rfl (da_cons (de_lc rfl hN (di_zip S.b_zip (da_cons (de_v 0) (da_cons (de_v 1) da_nil))) (blkOk_by (own := [("one", 2), ("other", 3)]) (by kernel_rfl)) (fun _ _ _ _ _ => (dg_t rfl (dgs_cons (dg_n 2 hN) (dgs_cons (dg_n 3 hN) dgs_nil)))) (fun _ _ _ _ _ => dts_nil) (fun _ _ _ _ _ => (de_op opD_sub (de_v 2) (de_v 3)))) da_nil)))))
/-! ### changes -/
theorem sc_changes : FnScope ["coins", "till", "amount", "found", "value", "many", "more", "heap", "left", "some"] ["coins", "till", "amount"] (defScope (top 30)) := ⟨rfl, rfl, rfl, by decide +kernel, rfl, by decide +kernel, by decide +kernel⟩
@[irreducible] noncomputable def b_changes_1 : FS := (sAug 6 augExt (lc fuel [9] (iRng1 (aCons (e2 addD (eL min2D (aCons (gv 5) (aCons (e2 fdivD (gv 8) (gv 4)) aNil))) (cst (.int 1))) aNil)) (bN 9) yes (mkT (aCons (e2 addD (gv 7) (mkT (aCons (gv 9) aNil))) (aCons (e2 subD (gv 8) (e2 mulD (gv 9) (gv 4))) aNil)))))
@[irreducible] noncomputable def b_changes_2 : FS := (sSeq (sAsg (mkO aNil) (bN 6))
    (sSeq (sFor fuel (iVal (gv 3)) (bT [(bN 7), (bN 8)]) b_changes_1)
    (sAsg (gv 6) (bN 3))))
@[irreducible] noncomputable def b_changes : FS := (sSeq (sAsg (mkL (aCons (mkT (aCons (mkT aNil) (aCons (gv 2) aNil))) aNil)) (bN 3))
    (sSeq (sFor fuel (iZip (aCons (gv 0) (aCons (gv 1) aNil))) (bT [(bN 4), (bN 5)]) b_changes_2)
    (sRet (lc fuel [7, 8] (iVal (gv 3)) (bT [(bN 7), (bN 8)]) (tst (e2 eqD (gv 8) (cst (.int 0)))) (gv 7)))))
noncomputable def F_changes : FF := trimF (runF 10 (b_changes))
theorem ok_changes {P : Program} {w : World} {K : PySem.W.Frag} {mg : Str → Option Value} {base : Heap} (S : Fx K mg) (T : Tx K mg base tfs) : FOk P w K mg base 1 "changes" 3 F_changes := by
  have sc := sc_changes
  have hN := sc.nd
  refine (Fn1.ok (k := 0) S.f_changes sc rfl (fun cdv A outer s H E f hr tk hp => ?_) (fun _ _ _ _ _ _ us hl => match us, hl with | [_, _, _], _ => rfl)).trim
  have hu := hr.units
  have hu5 := room65 hr
  exact (by unfold b_changes b_changes_2 b_changes_1; exact (dss_cons (ds_set 3 hN (de_lst (da_cons (de_tup (da_cons (de_tup da_nil) (da_cons (de_v 2) da_nil))) da_nil)))
    (dss_cons (ds_for hp rfl (di_zip S.b_zip (da_cons (de_v 0) (da_cons (de_v 1) da_nil))) (dg_t rfl (dgs_cons (dg_n 4 hN) (dgs_cons (dg_n 5 hN) dgs_nil))) (dss_cons (ds_set 6 hN (de_lstO da_nil))
    (dss_cons (ds_for hp rfl (di_val (de_v 3)) (dg_t rfl (dgs_cons (dg_n 7 hN) (dgs_cons (dg_n 8 hN) dgs_nil))) (dss_one (ds_aug 6 hN (de_lc rfl hN (di_range1 S.b_range (da_cons (de_op opD_add (de_callB (callD_min2 rfl) S.b_min rfl (da_cons (de_v 5) (da_cons (de_op opD_fdiv (de_v 8) (de_v 4)) da_nil))) de_int) da_nil)) (blkOk_by (own := [("some", 9)]) (by kernel_rfl)) (fun _ _ _ _ _ => (dg_n 9 hN)) (fun _ _ _ _ _ => dts_nil) (fun _ _ _ _ _ => (de_tup (da_cons (de_op opD_add (de_v 7) (de_tup (da_cons (de_v 9) da_nil))) (da_cons (de_op opD_sub (de_v 8) (de_op opD_mul (de_v 9) (de_v 4))) da_nil))))) iopD_ext)))
    (dss_one (ds_set 3 hN (de_v 6))))))
    (dss_one (ds_ret (de_lc rfl hN (di_val (de_v 3)) (blkOk_by (own := [("heap", 7), ("left", 8)]) (by kernel_rfl)) (fun _ _ _ _ _ => (dg_t rfl (dgs_cons (dg_n 7 hN) (dgs_cons (dg_n 8 hN) dgs_nil)))) (fun _ _ _ _ _ => (dts_one (dt_cmp (opD_eq hu) (de_v 8) de_int))) (fun _ _ _ _ _ => (de_v 7))))))))
/-! ### layers_in -/
theorem sc_layers_in : FnScope ["coins", "till", "payers", "layers", "price", "given", "layer", "now", "full", "change", "later"] ["coins", "till", "payers"] (defScope (top 31)) := ⟨rfl, rfl, rfl, by decide +kernel, rfl, by decide +kernel, by decide +kernel⟩
@[irreducible] noncomputable def b_layers_in_1 : FS := (sSeq (sAsg (eCall 2 F_without (aCons (gv 8) (aCons (gv 9) aNil))) (bN 10))
    (sSeq (sIf (tst (e2 notInX (gv 10) (gv 6))) (sSetIx setX (mkT (aCons (gv 7) (aCons (gv 9) aNil))) (gv 6) (gv 10)) sNil)
    (sIf (tst (e2 gtI (eL lenX (aCons (gv 6) aNil)) (cst (.int 3000)))) noS sNil)))
@[irreducible] noncomputable def b_layers_in_2 : FS := (sSeq (sAsg (eCall 2 F_with_given (aCons (gv 7) (aCons (gv 5) aNil))) (bN 8))
    (sFor fuel (iVal (eCall 3 F_changes (aCons (gv 0) (aCons (gv 8) (aCons (e2 subD (eCall 2 F_sum_in (aCons (gv 0) (aCons (gv 5) aNil))) (gv 4)) aNil))))) (bN 9) b_layers_in_1))
@[irreducible] noncomputable def b_layers_in_3 : FS := (sSeq (sAsg mkDT (bN 6))
    (sSeq (lockS (e2 ixX (gv 3) (e1 negD (cst (.int 1)))) (sFor fuel (iK (e2 ixX (gv 3) (e1 negD (cst (.int 1))))) (bN 7) b_layers_in_2))
    (sSeq (sIf (tst (e2 eqT (gv 6) mkDT)) (sRet (gv 3)) sNil)
    (sExp (eMt "list" appD (gv 3) (aCons (gv 6) aNil))))))
@[irreducible] noncomputable def b_layers_in : FS := (sSeq (sAsg (mkO (aCons (mkDT1 (gv 1) (cst .non)) aNil)) (bN 3))
    (sSeq (sFor fuel (iVal (gv 2)) (bT [(bN 4), (bN 5)]) b_layers_in_3)
    (sRet (gv 3))))
noncomputable def F_layers_in : FF := runF 11 (b_layers_in)
theorem ok_layers_in {P : Program} {w : World} {K : PySem.W.Frag} {mg : Str → Option Value} {base : Heap} (S : Fx K mg) (T : Tx K mg base tfs) : FOk P w K mg base 2 "layers_in" 3 F_layers_in := by
  have c_changes := ok_changes (P := P) (w := w) (base := base) S T
  have c_sum_in := ok_sum_in (P := P) (w := w) (base := base) S T
  have c_with_given := ok_with_given (P := P) (w := w) (base := base) S T
  have c_without := ok_without (P := P) (w := w) (base := base) S T
  have sc := sc_layers_in
  have hN := sc.nd
  refine (Fn1.ok (k := 1) S.f_layers_in sc rfl (fun cdv A outer s H E f hr tk hp => ?_) (fun _ _ _ _ _ _ us hl => match us, hl with | [_, _, _], _ => rfl))
  have hu := hr.units
  have hu5 := room65 hr
  exact (by unfold b_layers_in b_layers_in_3 b_layers_in_2 b_layers_in_1; exact (dss_cons (ds_set 3 hN (de_lstO (da_cons (de_dispT (Nat.lt_of_le_of_lt (Nat.add_le_add_left (by decide) _) hu5) (de_v 1) de_non) da_nil)))
    (dss_cons (ds_for hp rfl (di_val (de_v 2)) (dg_t rfl (dgs_cons (dg_n 4 hN) (dgs_cons (dg_n 5 hN) dgs_nil))) (dss_cons (ds_set 6 hN de_dT)
    (dss_cons (ds_lock (ds_for hp rfl (di_keys (de_ix (ixX_ok (Nat.lt_of_le_of_lt (Nat.add_le_add_left (by decide) _) hu5)) (de_v 3) (de_un unD_neg de_int))) (dg_n 7 hN) (dss_cons (ds_set 8 hN (de_callF c_with_given tk (hr.mono (by omega)) (da_cons (de_v 7) (da_cons (de_v 5) da_nil))))
    (dss_one (ds_for hp rfl (di_val (de_callF c_changes tk (hr.mono (by omega)) (da_cons (de_v 0) (da_cons (de_v 8) (da_cons (de_op opD_sub (de_callF c_sum_in tk (hr.mono (by omega)) (da_cons (de_v 0) (da_cons (de_v 5) da_nil))) (de_v 4)) da_nil))))) (dg_n 9 hN) (dss_cons (ds_set 10 hN (de_callF c_without tk (hr.mono (by omega)) (da_cons (de_v 8) (da_cons (de_v 9) da_nil))))
    (dss_cons (ds_if (dt_cmp (notInX_ok hu5) (de_v 10) (de_v 6)) (dss_one (ds_setIx (setX_ok (Nat.lt_of_le_of_lt (Nat.add_le_add_left (by decide) _) hu5)) (de_tup (da_cons (de_v 7) (da_cons (de_v 9) da_nil))) (de_v 6) (de_v 10))) dss_nil)
    (dss_one (ds_if (dt_cmp opD_gt (de_callB callX_len S.b_len rfl (da_cons (de_v 6) da_nil)) (de_gint S.i_STATES)) (dss_one ds_no) dss_nil)))))))))
    (dss_cons (ds_if (dt_cmp (opT_eq hu) (de_v 6) de_dT) (dss_one (ds_ret (de_v 3))) dss_nil)
    (dss_one (ds_exp (de_mt PySem.F.plainAttrs_list PySem.F.slot_list_append PySem.F.type_list_append mtD_append (de_v 3) (da_cons (de_v 6) da_nil))))))))
    (dss_one (ds_ret (de_v 3))))))
/-! ### plan_in -/
theorem sc_plan_in : FnScope ["layers", "found", "till", "layer", "change"] ["layers"] (defScope (top 32)) := ⟨rfl, rfl, rfl, by decide +kernel, rfl, by decide +kernel, by decide +kernel⟩
@[irreducible] noncomputable def b_plan_in_1 : FS := (sSeq (sAsg (e2 ixX (gv 3) (gv 2)) (bT [(bN 2), (bN 4)]))
    (sAsg (e2 addD (mkT (aCons (gv 4) aNil)) (gv 1)) (bN 1)))
@[irreducible] noncomputable def b_plan_in : FS := (sSeq (sPar 1 2 (mkT aNil) (eL minT (aCons (e2 ixX (gv 0) (e1 negD (cst (.int 1)))) aNil)))
    (sSeq (sFor fuel (iVal (e1 revT (gv 0))) (bN 3) b_plan_in_1)
    (sRet (gv 1))))
noncomputable def F_plan_in : FF := runF 5 (b_plan_in)
theorem ok_plan_in {P : Program} {w : World} {K : PySem.W.Frag} {mg : Str → Option Value} {base : Heap} (S : Fx K mg) (T : Tx K mg base tfs) : FOk P w K mg base 1 "plan_in" 1 F_plan_in := by
  have sc := sc_plan_in
  have hN := sc.nd
  refine (Fn1.ok (k := 0) S.f_plan_in sc rfl (fun cdv A outer s H E f hr tk hp => ?_) (fun _ _ _ _ _ _ us hl => match us, hl with | [_], _ => rfl))
  have hu := hr.units
  have hu5 := room65 hr
  exact (by unfold b_plan_in b_plan_in_1; exact (dss_cons (ds_par 1 2 rfl hN (de_tup da_nil) (de_callB (callT_min rfl hu5) S.b_min rfl (da_cons (de_ix (ixX_ok (Nat.lt_of_le_of_lt (Nat.add_le_add_left (by decide) _) hu5)) (de_v 0) (de_un unD_neg de_int)) da_nil)))
    (dss_cons (ds_for hp rfl (di_val (de_revT (de_v 0))) (dg_n 3 hN) (dss_cons (ds_asg (dg_t rfl (dgs_cons (dg_n 2 hN) (dgs_cons (dg_n 4 hN) dgs_nil))) (de_ix (ixX_ok (Nat.lt_of_le_of_lt (Nat.add_le_add_left (by decide) _) hu5)) (de_v 3) (de_v 2)))
    (dss_one (ds_set 1 hN (de_op opD_add (de_tup (da_cons (de_v 4) da_nil)) (de_v 1))))))
    (dss_one (ds_ret (de_v 1))))))
/-! ### fits_plan -/
theorem sc_fits_plan : FnScope ["coins", "till", "payers", "value", "now", "price", "given", "change", "full", "one", "most"] ["coins", "till", "payers", "value"] (defScope (top 33)) := ⟨rfl, rfl, rfl, by decide +kernel, rfl, by decide +kernel, by decide +kernel⟩
@[irreducible] noncomputable def b_fits_plan_1 : FS := (sSeq (sAsg (eCall 2 F_with_given (aCons (gv 4) (aCons (gv 6) aNil))) (bN 8))
    (sSeq (sIf (notT (tru (eCall 3 F_is_tuple_of (aCons (gv 7) (aCons (eL lenD (aCons (gv 0) aNil)) (aCons (eL lenD (aCons (gv 0) aNil)) aNil)))))) (sRet (cst (.bl false))) sNil)
    (sSeq (sIf (notT (tru (eL allD (aCons (lc fuel [9, 10] (iZip (aCons (gv 7) (aCons (gv 8) aNil))) (bT [(bN 9), (bN 10)]) yes (eCall 3 F_fits_whole (aCons (gv 9) (aCons (cst (.int 0)) (aCons (gv 10) aNil))))) aNil)))) (sRet (cst (.bl false))) sNil)
    (sSeq (sIf (tst (e2 neD (eCall 2 F_sum_in (aCons (gv 0) (aCons (gv 7) aNil))) (e2 subD (eCall 2 F_sum_in (aCons (gv 0) (aCons (gv 6) aNil))) (gv 5)))) (sRet (cst (.bl false))) sNil)
    (sAsg (eCall 2 F_without (aCons (gv 8) (aCons (gv 7) aNil))) (bN 4))))))
@[irreducible] noncomputable def b_fits_plan : FS := (sSeq (sIf (notT (tru (eCall 3 F_is_tuple_of (aCons (gv 3) (aCons (eL lenD (aCons (gv 2) aNil)) (aCons (eL lenD (aCons (gv 2) aNil)) aNil)))))) (sRet (cst (.bl false))) sNil)
    (sSeq (sAsg (gv 1) (bN 4))
    (sSeq (sFor fuel (iZip (aCons (gv 2) (aCons (gv 3) aNil))) (bT [(bT [(bN 5), (bN 6)]), (bN 7)]) b_fits_plan_1)
    (sRet (cst (.bl true))))))
noncomputable def F_fits_plan : FF := runF 11 (b_fits_plan)
theorem ok_fits_plan {P : Program} {w : World} {K : PySem.W.Frag} {mg : Str → Option Value} {base : Heap} (S : Fx K mg) (T : Tx K mg base tfs) : FOk P w K mg base 3 "fits_plan" 4 F_fits_plan := by
  have c_fits_whole := ok_fits_whole (P := P) (w := w) (base := base) S T
  have c_is_tuple_of := ok_is_tuple_of (P := P) (w := w) (base := base) S T
  have c_sum_in := ok_sum_in (P := P) (w := w) (base := base) S T
  have c_with_given := ok_with_given (P := P) (w := w) (base := base) S T
  have c_without := ok_without (P := P) (w := w) (base := base) S T
  have sc := sc_fits_plan
  have hN := sc.nd
  refine (Fn1.ok (k := 2) S.f_fits_plan sc rfl (fun cdv A outer s H E f hr tk hp => ?_) (fun _ _ _ _ _ _ us hl => match us, hl with | [_, _, _, _], _ => rfl))
  have hu := hr.units
  have hu5 := room65 hr
  exact (by unfold b_fits_plan b_fits_plan_1; exact (dss_cons (ds_if (dt_not (dt_tru (de_callF c_is_tuple_of tk (hr.mono (by omega)) (da_cons (de_v 3) (da_cons (de_callB callD_len S.b_len rfl (da_cons (de_v 2) da_nil)) (da_cons (de_callB callD_len S.b_len rfl (da_cons (de_v 2) da_nil)) da_nil)))))) (dss_one (ds_ret de_bl)) dss_nil)
    (dss_cons (ds_set 4 hN (de_v 1))
    (dss_cons (ds_for hp rfl (di_zip S.b_zip (da_cons (de_v 2) (da_cons (de_v 3) da_nil))) (dg_t rfl (dgs_cons (dg_t rfl (dgs_cons (dg_n 5 hN) (dgs_cons (dg_n 6 hN) dgs_nil))) (dgs_cons (dg_n 7 hN) dgs_nil))) (dss_cons (ds_set 8 hN (de_callF c_with_given tk (hr.mono (by omega)) (da_cons (de_v 4) (da_cons (de_v 6) da_nil))))
    (dss_cons (ds_if (dt_not (dt_tru (de_callF c_is_tuple_of tk (hr.mono (by omega)) (da_cons (de_v 7) (da_cons (de_callB callD_len S.b_len rfl (da_cons (de_v 0) da_nil)) (da_cons (de_callB callD_len S.b_len rfl (da_cons (de_v 0) da_nil)) da_nil)))))) (dss_one (ds_ret de_bl)) dss_nil)
    (dss_cons (ds_if (dt_not (dt_tru (de_callB (callD_all rfl) S.b_all rfl (da_cons (de_lc rfl hN (di_zip S.b_zip (da_cons (de_v 7) (da_cons (de_v 8) da_nil))) (blkOk_by (own := [("one", 9), ("most", 10)]) (by kernel_rfl)) (fun _ _ _ _ _ => (dg_t rfl (dgs_cons (dg_n 9 hN) (dgs_cons (dg_n 10 hN) dgs_nil)))) (fun _ _ _ _ _ => dts_nil) (fun _ _ _ _ _ => (de_callF c_fits_whole tk0 (hr.mono (by omega)) (da_cons (de_v 9) (da_cons de_int (da_cons (de_v 10) da_nil)))))) da_nil)))) (dss_one (ds_ret de_bl)) dss_nil)
    (dss_cons (ds_if (dt_cmp (opD_ne hu) (de_callF c_sum_in tk (hr.mono (by omega)) (da_cons (de_v 0) (da_cons (de_v 7) da_nil))) (de_op opD_sub (de_callF c_sum_in tk (hr.mono (by omega)) (da_cons (de_v 0) (da_cons (de_v 6) da_nil))) (de_v 5))) (dss_one (ds_ret de_bl)) dss_nil)
    (dss_one (ds_set 4 hN (de_callF c_without tk (hr.mono (by omega)) (da_cons (de_v 8) (da_cons (de_v 7) da_nil))))))))))
    (dss_one (ds_ret de_bl))))))
/-! ### served_many -/
theorem sc_served_many : FnScope ["coins", "till", "payers"] ["coins", "till", "payers"] (defScope (top 34)) := ⟨rfl, rfl, rfl, by decide +kernel, rfl, by decide +kernel, by decide +kernel⟩
@[irreducible] noncomputable def b_served_many : FS := (sSeq (sExp (eCall 3 F_need_queue (aCons (gv 0) (aCons (gv 1) (aCons (gv 2) aNil)))))
    (sRet (e2 subD (eL lenD (aCons (eCall 3 F_layers_in (aCons (gv 0) (aCons (gv 1) (aCons (gv 2) aNil)))) aNil)) (cst (.int 1)))))
noncomputable def F_served_many : FF := trimF (runF 3 (b_served_many))
theorem ok_served_many {P : Program} {w : World} {K : PySem.W.Frag} {mg : Str → Option Value} {base : Heap} (S : Fx K mg) (T : Tx K mg base tfs) : FOk P w K mg base 7 "served_many" 3 F_served_many := by
  have c_layers_in := ok_layers_in (P := P) (w := w) (base := base) S T
  have c_need_queue := ok_need_queue (P := P) (w := w) (base := base) S T
  have sc := sc_served_many
  have hN := sc.nd
  refine (Fn1.ok (k := 6) S.f_served_many sc rfl (fun cdv A outer s H E f hr tk hp => ?_) (fun _ _ _ _ _ _ us hl => match us, hl with | [_, _, _], _ => rfl)).trim
  have hu := hr.units
  have hu5 := room65 hr
  exact (by unfold b_served_many; exact (dss_cons (ds_exp (de_callF c_need_queue tk (hr.mono (by omega)) (da_cons (de_v 0) (da_cons (de_v 1) (da_cons (de_v 2) da_nil)))))
    (dss_one (ds_ret (de_op opD_sub (de_callB callD_len S.b_len rfl (da_cons (de_callF c_layers_in tk (hr.mono (by omega)) (da_cons (de_v 0) (da_cons (de_v 1) (da_cons (de_v 2) da_nil)))) da_nil)) de_int)))))
/-! ### change_plan -/
theorem sc_change_plan : FnScope ["coins", "till", "payers", "layers"] ["coins", "till", "payers"] (defScope (top 35)) := ⟨rfl, rfl, rfl, by decide +kernel, rfl, by decide +kernel, by decide +kernel⟩
@[irreducible] noncomputable def b_change_plan : FS := (sSeq (sExp (eCall 3 F_need_queue (aCons (gv 0) (aCons (gv 1) (aCons (gv 2) aNil)))))
    (sSeq (sAsg (eCall 3 F_layers_in (aCons (gv 0) (aCons (gv 1) (aCons (gv 2) aNil)))) (bN 3))
    (sRet (ifE (tst (e2 gtI (eL lenD (aCons (gv 3) aNil)) (eL lenD (aCons (gv 2) aNil)))) (eCall 1 F_plan_in (aCons (gv 3) aNil)) (cst .non)))))
noncomputable def F_change_plan : FF := trimF (runF 4 (b_change_plan))
theorem ok_change_plan {P : Program} {w : World} {K : PySem.W.Frag} {mg : Str → Option Value} {base : Heap} (S : Fx K mg) (T : Tx K mg base tfs) : FOk P w K mg base 7 "change_plan" 3 F_change_plan := by
  have c_layers_in := ok_layers_in (P := P) (w := w) (base := base) S T
  have c_need_queue := ok_need_queue (P := P) (w := w) (base := base) S T
  have c_plan_in := ok_plan_in (P := P) (w := w) (base := base) S T
  have sc := sc_change_plan
  have hN := sc.nd
  refine (Fn1.ok (k := 6) S.f_change_plan sc rfl (fun cdv A outer s H E f hr tk hp => ?_) (fun _ _ _ _ _ _ us hl => match us, hl with | [_, _, _], _ => rfl)).trim
  have hu := hr.units
  have hu5 := room65 hr
  exact (by unfold b_change_plan; exact (dss_cons (ds_exp (de_callF c_need_queue tk (hr.mono (by omega)) (da_cons (de_v 0) (da_cons (de_v 1) (da_cons (de_v 2) da_nil)))))
    (dss_cons (ds_set 3 hN (de_callF c_layers_in tk (hr.mono (by omega)) (da_cons (de_v 0) (da_cons (de_v 1) (da_cons (de_v 2) da_nil)))))
    (dss_one (ds_ret (de_if (dt_cmp opD_gt (de_callB callD_len S.b_len rfl (da_cons (de_v 3) da_nil)) (de_callB callD_len S.b_len rfl (da_cons (de_v 2) da_nil))) (de_callF c_plan_in tk (hr.mono (by omega)) (da_cons (de_v 3) da_nil)) de_non))))))
/-! ### is_plan -/
theorem sc_is_plan : FnScope ["coins", "till", "payers", "value"] ["coins", "till", "payers", "value"] (defScope (top 36)) := ⟨rfl, rfl, rfl, by decide +kernel, rfl, by decide +kernel, by decide +kernel⟩
@[irreducible] noncomputable def b_is_plan : FS := (sSeq (sExp (eCall 3 F_need_queue (aCons (gv 0) (aCons (gv 1) (aCons (gv 2) aNil)))))
    (sRet (eCall 4 F_fits_plan (aCons (gv 0) (aCons (gv 1) (aCons (gv 2) (aCons (gv 3) aNil)))))))
noncomputable def F_is_plan : FF := runF 4 (b_is_plan)
theorem ok_is_plan {P : Program} {w : World} {K : PySem.W.Frag} {mg : Str → Option Value} {base : Heap} (S : Fx K mg) (T : Tx K mg base tfs) : FOk P w K mg base 7 "is_plan" 4 F_is_plan := by
  have c_fits_plan := ok_fits_plan (P := P) (w := w) (base := base) S T
  have c_need_queue := ok_need_queue (P := P) (w := w) (base := base) S T
  have sc := sc_is_plan
  have hN := sc.nd
  refine (Fn1.ok (k := 6) S.f_is_plan sc rfl (fun cdv A outer s H E f hr tk hp => ?_) (fun _ _ _ _ _ _ us hl => match us, hl with | [_, _, _, _], _ => rfl))
  have hu := hr.units
  have hu5 := room65 hr
  exact (by unfold b_is_plan; exact (dss_cons (ds_exp (de_callF c_need_queue tk (hr.mono (by omega)) (da_cons (de_v 0) (da_cons (de_v 1) (da_cons (de_v 2) da_nil)))))
    (dss_one (ds_ret (de_callF c_fits_plan tk (hr.mono (by omega)) (da_cons (de_v 0) (da_cons (de_v 1) (da_cons (de_v 2) (da_cons (de_v 3) da_nil)))))))))
/-! ### till_behind -/
theorem sc_till_behind : FnScope ["coins", "till", "payers", "plan", "now", "price", "given", "change"] ["coins", "till", "payers", "plan"] (defScope (top 37)) := ⟨rfl, rfl, rfl, by decide +kernel, rfl, by decide +kernel, by decide +kernel⟩
@[irreducible] noncomputable def b_till_behind_1 : FS := (sAsg (eCall 2 F_without (aCons (eCall 2 F_with_given (aCons (gv 4) (aCons (gv 6) aNil))) (aCons (gv 7) aNil))) (bN 4))
@[irreducible] noncomputable def b_till_behind : FS := (sSeq (sExp (eCall 3 F_need_queue (aCons (gv 0) (aCons (gv 1) (aCons (gv 2) aNil)))))
    (sSeq (sIf (notT (tru (eCall 4 F_fits_plan (aCons (gv 0) (aCons (gv 1) (aCons (gv 2) (aCons (gv 3) aNil))))))) noS sNil)
    (sSeq (sAsg (gv 1) (bN 4))
    (sSeq (sFor fuel (iZip (aCons (gv 2) (aCons (gv 3) aNil))) (bT [(bT [(bN 5), (bN 6)]), (bN 7)]) b_till_behind_1)
    (sRet (gv 4))))))
noncomputable def F_till_behind : FF := runF 8 (b_till_behind)
theorem ok_till_behind {P : Program} {w : World} {K : PySem.W.Frag} {mg : Str → Option Value} {base : Heap} (S : Fx K mg) (T : Tx K mg base tfs) : FOk P w K mg base 7 "till_behind" 4 F_till_behind := by
  have c_fits_plan := ok_fits_plan (P := P) (w := w) (base := base) S T
  have c_need_queue := ok_need_queue (P := P) (w := w) (base := base) S T
  have c_with_given := ok_with_given (P := P) (w := w) (base := base) S T
  have c_without := ok_without (P := P) (w := w) (base := base) S T
  have sc := sc_till_behind
  have hN := sc.nd
  refine (Fn1.ok (k := 6) S.f_till_behind sc rfl (fun cdv A outer s H E f hr tk hp => ?_) (fun _ _ _ _ _ _ us hl => match us, hl with | [_, _, _, _], _ => rfl))
  have hu := hr.units
  have hu5 := room65 hr
  exact (by unfold b_till_behind b_till_behind_1; exact (dss_cons (ds_exp (de_callF c_need_queue tk (hr.mono (by omega)) (da_cons (de_v 0) (da_cons (de_v 1) (da_cons (de_v 2) da_nil)))))
    (dss_cons (ds_if (dt_not (dt_tru (de_callF c_fits_plan tk (hr.mono (by omega)) (da_cons (de_v 0) (da_cons (de_v 1) (da_cons (de_v 2) (da_cons (de_v 3) da_nil))))))) (dss_one ds_no) dss_nil)
    (dss_cons (ds_set 4 hN (de_v 1))
    (dss_cons (ds_for hp rfl (di_zip S.b_zip (da_cons (de_v 2) (da_cons (de_v 3) da_nil))) (dg_t rfl (dgs_cons (dg_t rfl (dgs_cons (dg_n 5 hN) (dgs_cons (dg_n 6 hN) dgs_nil))) (dgs_cons (dg_n 7 hN) dgs_nil))) (dss_one (ds_set 4 hN (de_callF c_without tk (hr.mono (by omega)) (da_cons (de_callF c_with_given tk (hr.mono (by omega)) (da_cons (de_v 4) (da_cons (de_v 6) da_nil))) (da_cons (de_v 7) da_nil))))))
    (dss_one (ds_ret (de_v 4))))))))
/-! ### tills_many -/
theorem sc_tills_many : FnScope ["coins", "till", "payers", "layers"] ["coins", "till", "payers"] (defScope (top 38)) := ⟨rfl, rfl, rfl, by decide +kernel, rfl, by decide +kernel, by decide +kernel⟩
@[irreducible] noncomputable def b_tills_many : FS := (sSeq (sExp (eCall 3 F_need_queue (aCons (gv 0) (aCons (gv 1) (aCons (gv 2) aNil)))))
    (sSeq (sAsg (eCall 3 F_layers_in (aCons (gv 0) (aCons (gv 1) (aCons (gv 2) aNil)))) (bN 3))
    (sRet (ifE (tst (e2 gtI (eL lenX (aCons (gv 3) aNil)) (eL lenX (aCons (gv 2) aNil)))) (eL lenX (aCons (e2 ixX (gv 3) (e1 negD (cst (.int 1)))) aNil)) (cst (.int 0))))))
noncomputable def F_tills_many : FF := trimF (runF 4 (b_tills_many))
theorem ok_tills_many {P : Program} {w : World} {K : PySem.W.Frag} {mg : Str → Option Value} {base : Heap} (S : Fx K mg) (T : Tx K mg base tfs) : FOk P w K mg base 7 "tills_many" 3 F_tills_many := by
  have c_layers_in := ok_layers_in (P := P) (w := w) (base := base) S T
  have c_need_queue := ok_need_queue (P := P) (w := w) (base := base) S T
  have sc := sc_tills_many
  have hN := sc.nd
  refine (Fn1.ok (k := 6) S.f_tills_many sc rfl (fun cdv A outer s H E f hr tk hp => ?_) (fun _ _ _ _ _ _ us hl => match us, hl with | [_, _, _], _ => rfl)).trim
  have hu := hr.units
  have hu5 := room65 hr
  exact (by unfold b_tills_many; exact (dss_cons (ds_exp (de_callF c_need_queue tk (hr.mono (by omega)) (da_cons (de_v 0) (da_cons (de_v 1) (da_cons (de_v 2) da_nil)))))
    (dss_cons (ds_set 3 hN (de_callF c_layers_in tk (hr.mono (by omega)) (da_cons (de_v 0) (da_cons (de_v 1) (da_cons (de_v 2) da_nil)))))
    (dss_one (ds_ret (de_if (dt_cmp opD_gt (de_callB callX_len S.b_len rfl (da_cons (de_v 3) da_nil)) (de_callB callX_len S.b_len rfl (da_cons (de_v 2) da_nil))) (de_callB callX_len S.b_len rfl (da_cons (de_ix (ixX_ok (Nat.lt_of_le_of_lt (Nat.add_le_add_left (by decide) _) hu5)) (de_v 3) (de_un unD_neg de_int)) da_nil)) de_int))))))
/-! ### _law_cup -/
theorem sc__law_cup : FnScope ["script", "cell"] ["script"] (defScope (top 40)) := ⟨rfl, rfl, rfl, by decide +kernel, rfl, by decide +kernel, by decide +kernel⟩
@[irreducible] noncomputable def b__law_cup : FS := (sSeq (sAsg (eL absD (aCons (e2 ixD (e2 addD (eL listD (aCons (gv 0) aNil)) (mkL (aCons (cst (.int 0)) aNil))) (cst (.int 0))) aNil)) (bN 1))
    (sRet (mkO (aCons (ifE (tst (e2 geI (gv 1) (e2 powD (cst (.int 10)) (cst (.int 18))))) (e2 fdivD (gv 1) (cst (.int 181))) (cst (.int 0))) (aCons (e2 addD (e2 modD (eL intD (aCons (e2 addD (e2 mulD (gv 1) (cst (.int 479))) (cst (.int 4349))) aNil)) (cst (.int 2077502627))) (cst (.int 337))) aNil)))))
noncomputable def F__law_cup : FF := runF 2 (b__law_cup)
theorem ok__law_cup {P : Program} {w : World} {K : PySem.W.Frag} {mg : Str → Option Value} {base : Heap} (S : Fx K mg) (T : Tx K mg base tfs) : FOk P w K mg base 1 "_law_cup" 1 F__law_cup := by
  have sc := sc__law_cup
  have hN := sc.nd
  refine (Fn1.ok (k := 0) S.f__law_cup sc rfl (fun cdv A outer s H E f hr tk hp => ?_) (fun _ _ _ _ _ _ us hl => match us, hl with | [_], _ => rfl))
  have hu := hr.units
  have hu5 := room65 hr
  exact (by unfold b__law_cup; exact (dss_cons (ds_set 1 hN (de_callB callD_abs S.b_abs rfl (da_cons (de_ix ixD_seq (de_op opD_add (de_callTy callD_list S.b_list rfl (da_cons (de_v 0) da_nil)) (de_lst (da_cons de_int da_nil))) de_int) da_nil)))
    (dss_one (ds_ret (de_lstO (da_cons (de_if (dt_cmp opD_ge (de_v 1) (de_op opD_pow de_int de_int)) (de_op opD_fdiv (de_v 1) de_int) de_int) (da_cons (de_op opD_add (de_op opD_mod (de_callTy callD_int S.b_int rfl (da_cons (de_op opD_add (de_op opD_mul (de_v 1) de_int) de_int) da_nil)) de_int) de_int) da_nil)))))))
/-! ### _law_roll -/
theorem sc__law_roll : FnScope ["cup", "many", "found", "deep"] ["cup", "many"] (defScope (top 41)) := ⟨rfl, rfl, rfl, by decide +kernel, rfl, by decide +kernel, by decide +kernel⟩
@[irreducible] noncomputable def b__law_roll : FS := (sSeq (sIf (tst (e2 gtI (e2 ixD (gv 0) (cst (.int 0))) (cst (.int 0)))) (sSeq (sAsg (e2 modD (eL intD (aCons (e2 ixD (gv 0) (cst (.int 0))) aNil)) (gv 1)) (bN 2))
    (sSeq (sSetIx setD (e2 fdivD (e2 ixD (gv 0) (cst (.int 0))) (gv 1)) (gv 0) (cst (.int 0)))
    (sRet (gv 2)))) sNil)
    (sSeq (sSetIx setD (e2 modD (eL intD (aCons (e2 addD (e2 mulD (e2 ixD (gv 0) (cst (.int 1))) (cst (.int 31181))) (cst (.int 8167))) aNil)) (cst (.int 2147482507))) (gv 0) (cst (.int 1)))
    (sSeq (sAsg (e2 modD (eL intD (aCons (e2 mulD (e2 ixD (gv 0) (cst (.int 1))) (e2 addD (e2 ixD (gv 0) (cst (.int 1))) (cst (.int 383)))) aNil)) (cst (.int 2147483059))) (bN 3))
    (sRet (e2 modD (eL intD (aCons (e2 fdivD (gv 3) (cst (.int 953))) aNil)) (gv 1))))))
noncomputable def F__law_roll : FF := runF 4 (b__law_roll)
theorem ok__law_roll {P : Program} {w : World} {K : PySem.W.Frag} {mg : Str → Option Value} {base : Heap} (S : Fx K mg) (T : Tx K mg base tfs) : FOk P w K mg base 1 "_law_roll" 2 F__law_roll := by
  have sc := sc__law_roll
  have hN := sc.nd
  refine (Fn1.ok (k := 0) S.f__law_roll sc rfl (fun cdv A outer s H E f hr tk hp => ?_) (fun _ _ _ _ _ _ us hl => match us, hl with | [_, _], _ => rfl))
  have hu := hr.units
  have hu5 := room65 hr
  exact (by unfold b__law_roll; exact (dss_cons (ds_if (dt_cmp opD_gt (de_ix ixD_seq (de_v 0) de_int) de_int) (dss_cons (ds_set 2 hN (de_op opD_mod (de_callTy callD_int S.b_int rfl (da_cons (de_ix ixD_seq (de_v 0) de_int) da_nil)) (de_v 1)))
    (dss_cons (ds_setIx (setD_ok hu) (de_op opD_fdiv (de_ix ixD_seq (de_v 0) de_int) (de_v 1)) (de_v 0) de_int)
    (dss_one (ds_ret (de_v 2))))) dss_nil)
    (dss_cons (ds_setIx (setD_ok hu) (de_op opD_mod (de_callTy callD_int S.b_int rfl (da_cons (de_op opD_add (de_op opD_mul (de_ix ixD_seq (de_v 0) de_int) de_int) de_int) da_nil)) de_int) (de_v 0) de_int)
    (dss_cons (ds_set 3 hN (de_op opD_mod (de_callTy callD_int S.b_int rfl (da_cons (de_op opD_mul (de_ix ixD_seq (de_v 0) de_int) (de_op opD_add (de_ix ixD_seq (de_v 0) de_int) de_int)) da_nil)) de_int))
    (dss_one (ds_ret (de_op opD_mod (de_callTy callD_int S.b_int rfl (da_cons (de_op opD_fdiv (de_v 3) de_int) da_nil)) (de_v 1))))))))
/-! ### _law_some -/
theorem sc__law_some : FnScope ["cup", "things"] ["cup", "things"] (defScope (top 42)) := ⟨rfl, rfl, rfl, by decide +kernel, rfl, by decide +kernel, by decide +kernel⟩
@[irreducible] noncomputable def b__law_some : FS := (sRet (e2 ixD (gv 1) (eCall 2 F__law_roll (aCons (gv 0) (aCons (eL lenD (aCons (gv 1) aNil)) aNil)))))
noncomputable def F__law_some : FF := runF 2 (b__law_some)
theorem ok__law_some {P : Program} {w : World} {K : PySem.W.Frag} {mg : Str → Option Value} {base : Heap} (S : Fx K mg) (T : Tx K mg base tfs) : FOk P w K mg base 2 "_law_some" 2 F__law_some := by
  have c__law_roll := ok__law_roll (P := P) (w := w) (base := base) S T
  have sc := sc__law_some
  have hN := sc.nd
  refine (Fn1.ok (k := 1) S.f__law_some sc rfl (fun cdv A outer s H E f hr tk hp => ?_) (fun _ _ _ _ _ _ us hl => match us, hl with | [_, _], _ => rfl))
  have hu := hr.units
  have hu5 := room65 hr
  exact (by unfold b__law_some; exact (dss_one (ds_ret (de_ix ixD_seq (de_v 1) (de_callF c__law_roll tk (hr.mono (by omega)) (da_cons (de_v 0) (da_cons (de_callB callD_len S.b_len rfl (da_cons (de_v 1) da_nil)) da_nil)))))))
/-! ### _law_same -/
theorem sc__law_same : FnScope ["told", "due", "at"] ["told", "due"] (defScope (top 43)) := ⟨rfl, rfl, rfl, by decide +kernel, rfl, by decide +kernel, by decide +kernel⟩
@[irreducible] noncomputable def b__law_same (F : FF) : FS := (sSeq (sIf (tru (eL isiD (aCons (gv 1) (aCons (cst (.ty "tuple")) aNil)))) (sSeq (sIf (orT (notT (tru (eL isiD (aCons (gv 0) (aCons (cst (.ty "tuple")) aNil))))) (tst (e2 neD (eL lenD (aCons (gv 0) aNil)) (eL lenD (aCons (gv 1) aNil))))) (sRet (cst (.bl false))) sNil)
    (sRet (eL allD (aCons (lc fuel [2] (iRng1 (aCons (eL lenD (aCons (gv 1) aNil)) aNil)) (bN 2) yes (eCall 2 F (aCons (e2 ixD (gv 0) (gv 2)) (aCons (e2 ixD (gv 1) (gv 2)) aNil)))) aNil)))) sNil)
    (sSeq (sIf (tst (e2 isD (gv 1) (cst .non))) (sRet (e2 isD (gv 0) (cst .non))) sNil)
    (sSeq (sIf (tru (eL isiD (aCons (gv 1) (aCons (cst (.ty "bool")) aNil)))) (sRet (ifE (tru (gv 1)) (e2 isD (gv 0) (cst (.bl true))) (e2 isD (gv 0) (cst (.bl false))))) sNil)
    (sSeq (sIf (tru (eL isiD (aCons (gv 1) (aCons (cst (.ty "int")) aNil)))) (sRet (andE (eL isiD (aCons (gv 0) (aCons (cst (.ty "int")) aNil))) (andE (notE (eL isiD (aCons (gv 0) (aCons (cst (.ty "bool")) aNil)))) (e2 eqD (eL intD (aCons (gv 0) aNil)) (gv 1))))) sNil)
    (sRet (andE (eL isiD (aCons (gv 0) (aCons (cst (.ty "str")) aNil))) (e2 eqD (eL strD (aCons (gv 0) aNil)) (gv 1))))))))
noncomputable def F__law_same : Nat → FF
  | 0 => noF
  | m + 1 => let F := F__law_same m; runF 3 (b__law_same F)
theorem ok__law_same {P : Program} {w : World} {K : PySem.W.Frag} {mg : Str → Option Value} {base : Heap} (S : Fx K mg) (T : Tx K mg base tfs) : ∀ m : Nat, FOk P w K mg base (0 + m) "_law_same" 2 (F__law_same m)
  | 0 => ⟨S.f__law_same.g, let ⟨_, F⟩ := S.f__law_same.f; F.kp, let ⟨_, F⟩ := S.f__law_same.f; ⟨_, ["told", "due"], fn_no, F.bindsN fun _ _ _ _ _ _ us hl => match us, hl with | [_, _], _ => rfl⟩⟩
  | m + 1 => by
    have ih := ok__law_same (P := P) (w := w) (base := base) S T m
    have sc := sc__law_same
    have hN := sc.nd
    refine (Fn1.ok (k := 0 + m) S.f__law_same sc rfl (fun cdv A outer s H E f hr tk hp => ?_) (fun _ _ _ _ _ _ us hl => match us, hl with | [_, _], _ => rfl))
    have hu := hr.units
    have hu5 := room65 hr
    exact (by unfold b__law_same; exact (dss_cons (ds_if (dt_tru (de_callB callD_isi S.b_isinstance rfl (da_cons (de_v 1) (da_cons (de_ty S.b_tuple rfl) da_nil)))) (dss_cons (ds_if (dt_w (dw_or (dt_not (dt_tru (de_callB callD_isi S.b_isinstance rfl (da_cons (de_v 0) (da_cons (de_ty S.b_tuple rfl) da_nil))))) (dw_or1 (dt_cmp (opD_ne hu) (de_callB callD_len S.b_len rfl (da_cons (de_v 0) da_nil)) (de_callB callD_len S.b_len rfl (da_cons (de_v 1) da_nil)))))) (dss_one (ds_ret de_bl)) dss_nil)
    (dss_one (ds_ret (de_callB (callD_all rfl) S.b_all rfl (da_cons (de_lc rfl hN (di_range1 S.b_range (da_cons (de_callB callD_len S.b_len rfl (da_cons (de_v 1) da_nil)) da_nil)) (blkOk_by (own := [("at", 2)]) (by kernel_rfl)) (fun _ _ _ _ _ => (dg_n 2 hN)) (fun _ _ _ _ _ => dts_nil) (fun _ _ _ _ _ => (de_callF ih tk0 (hr.mono (by omega)) (da_cons (de_ix ixD_seq (de_v 0) (de_v 2)) (da_cons (de_ix ixD_seq (de_v 1) (de_v 2)) da_nil))))) da_nil))))) dss_nil)
    (dss_cons (ds_if (dt_cmp opD_is (de_v 1) de_non) (dss_one (ds_ret (de_cmp opD_is (de_v 0) de_non))) dss_nil)
    (dss_cons (ds_if (dt_tru (de_callB callD_isi S.b_isinstance rfl (da_cons (de_v 1) (da_cons (de_ty S.b_bool rfl) da_nil)))) (dss_one (ds_ret (de_if (dt_tru (de_v 1)) (de_cmp opD_is (de_v 0) de_bl) (de_cmp opD_is (de_v 0) de_bl)))) dss_nil)
    (dss_cons (ds_if (dt_tru (de_callB callD_isi S.b_isinstance rfl (da_cons (de_v 1) (da_cons (de_ty S.b_int rfl) da_nil)))) (dss_one (ds_ret (de_and (de_callB callD_isi S.b_isinstance rfl (da_cons (de_v 0) (da_cons (de_ty S.b_int rfl) da_nil))) (de_and (de_not (de_callB callD_isi S.b_isinstance rfl (da_cons (de_v 0) (da_cons (de_ty S.b_bool rfl) da_nil)))) (de_one (de_cmp (opD_eq hu) (de_callTy callD_int S.b_int rfl (da_cons (de_v 0) da_nil)) (de_v 1))))))) dss_nil)
    (dss_one (ds_ret (de_and (de_callB callD_isi S.b_isinstance rfl (da_cons (de_v 0) (da_cons (de_ty S.b_str rfl) da_nil))) (de_one (de_cmp (opD_eq hu) (de_callTy callD_str S.b_str rfl (da_cons (de_v 0) da_nil)) (de_v 1)))))))))))
/-! ### _law_coins -/
theorem sc__law_coins : FnScope ["cup", "many", "most", "found", "turn"] ["cup", "many", "most"] (defScope (top 44)) := ⟨rfl, rfl, rfl, by decide +kernel, rfl, by decide +kernel, by decide +kernel⟩
@[irreducible] noncomputable def b__law_coins_1 : FS := (sSetIx setD (cst (.bl true)) (gv 3) (e2 addD (cst (.int 1)) (eCall 2 F__law_some (aCons (gv 0) (aCons (mkL (aCons (eCall 2 F__law_roll (aCons (gv 0) (aCons (cst (.int 12)) aNil))) (aCons (eCall 2 F__law_roll (aCons (gv 0) (aCons (gv 2) aNil))) (aCons (eCall 2 F__law_roll (aCons (gv 0) (aCons (gv 2) aNil))) aNil)))) aNil)))))
@[irreducible] noncomputable def b__law_coins : FS := (sSeq (sAsg mkDK (bN 3))
    (sSeq (sFor fuel (iRng1 (aCons (e2 addD (cst (.int 1)) (eCall 2 F__law_roll (aCons (gv 0) (aCons (gv 1) aNil)))) aNil)) (bN 4) b__law_coins_1)
    (sSeq (sIf (tst (e2 gtI (eCall 2 F__law_roll (aCons (gv 0) (aCons (cst (.int 3)) aNil))) (cst (.int 0)))) (sSetIx setD (cst (.bl true)) (gv 3) (cst (.int 1))) sNil)
    (sRet (eSl slD (eL tupleD (aCons (eL sortedD (aCons (gv 3) aNil)) aNil)) oNone (oSome (cst (.int 12))))))))
noncomputable def F__law_coins : FF := runF 5 (b__law_coins)
theorem ok__law_coins {P : Program} {w : World} {K : PySem.W.Frag} {mg : Str → Option Value} {base : Heap} (S : Fx K mg) (T : Tx K mg base tfs) : FOk P w K mg base 3 "_law_coins" 3 F__law_coins := by
  have c__law_roll := ok__law_roll (P := P) (w := w) (base := base) S T
  have c__law_some := ok__law_some (P := P) (w := w) (base := base) S T
  have sc := sc__law_coins
  have hN := sc.nd
  refine (Fn1.ok (k := 2) S.f__law_coins sc rfl (fun cdv A outer s H E f hr tk hp => ?_) (fun _ _ _ _ _ _ us hl => match us, hl with | [_, _, _], _ => rfl))
  have hu := hr.units
  have hu5 := room65 hr
  exact (by unfold b__law_coins b__law_coins_1; exact (dss_cons (ds_set 3 hN de_dK)
    (dss_cons (ds_for hp rfl (di_range1 S.b_range (da_cons (de_op opD_add de_int (de_callF c__law_roll tk (hr.mono (by omega)) (da_cons (de_v 0) (da_cons (de_v 1) da_nil)))) da_nil)) (dg_n 4 hN) (dss_one (ds_setIx (setD_ok hu) de_bl (de_v 3) (de_op opD_add de_int (de_callF c__law_some tk (hr.mono (by omega)) (da_cons (de_v 0) (da_cons (de_lst (da_cons (de_callF c__law_roll tk (hr.mono (by omega)) (da_cons (de_v 0) (da_cons de_int da_nil))) (da_cons (de_callF c__law_roll tk (hr.mono (by omega)) (da_cons (de_v 0) (da_cons (de_v 2) da_nil))) (da_cons (de_callF c__law_roll tk (hr.mono (by omega)) (da_cons (de_v 0) (da_cons (de_v 2) da_nil))) da_nil)))) da_nil)))))))
    (dss_cons (ds_if (dt_cmp opD_gt (de_callF c__law_roll tk (hr.mono (by omega)) (da_cons (de_v 0) (da_cons de_int da_nil))) de_int) (dss_one (ds_setIx (setD_ok hu) de_bl (de_v 3) de_int)) dss_nil)
    (dss_one (ds_ret (de_slice slD_ok (de_callTy callD_tuple S.b_tuple rfl (da_cons (de_callB (callD_sorted rfl) S.b_sorted rfl (da_cons (de_v 3) da_nil)) da_nil)) do_none (do_some de_int))))))))
/-! ### _law_sum -/
theorem sc__law_sum : FnScope ["coins", "heap", "value", "many"] ["coins", "heap"] (defScope (top 45)) := ⟨rfl, rfl, rfl, by decide +kernel, rfl, by decide +kernel, by decide +kernel⟩
@[irreducible] noncomputable def b__law_sum : FS := (sRet (eL sumD (aCons (lc fuel [2, 3] (iZip (aCons (gv 0) (aCons (gv 1) aNil))) (bT [(bN 2), (bN 3)]) yes (e2 mulD (gv 2) (gv 3))) aNil)))
noncomputable def F__law_sum : FF := runF 4 (b__law_sum)
theorem ok__law_sum {P : Program} {w : World} {K : PySem.W.Frag} {mg : Str → Option Value} {base : Heap} (S : Fx K mg) (T : Tx K mg base tfs) : FOk P w K mg base 1 "_law_sum" 2 F__law_sum := by
  have sc := sc__law_sum
  have hN := sc.nd
  refine (Fn1.ok (k := 0) S.f__law_sum sc rfl (fun cdv A outer s H E f hr tk hp => ?_) (fun _ _ _ _ _ _ us hl => match us, hl with | [_, _], _ => rfl))
  have hu := hr.units
  have hu5 := room65 hr
  exact (by unfold b__law_sum; exact (dss_one (ds_ret (de_callB (callD_sum rfl) S.b_sum rfl (da_cons (de_lc rfl hN (di_zip S.b_zip (da_cons (de_v 0) (da_cons (de_v 1) da_nil))) (blkOk_by (own := [("value", 2), ("many", 3)]) (by kernel_rfl)) (fun _ _ _ _ _ => (dg_t rfl (dgs_cons (dg_n 2 hN) (dgs_cons (dg_n 3 hN) dgs_nil)))) (fun _ _ _ _ _ => dts_nil) (fun _ _ _ _ _ => (de_op opD_mul (de_v 2) (de_v 3)))) da_nil)))))
/-! ### _law_payers -/
theorem sc__law_payers : FnScope ["cup", "coins", "many", "found", "turn", "given", "value", "worth"] ["cup", "coins", "many"] (defScope (top 46)) := ⟨rfl, rfl, rfl, by decide +kernel, rfl, by decide +kernel, by decide +kernel⟩
@[irreducible] noncomputable def b__law_payers_1 : FS := (sSeq (sAsg (eL tupleD (aCons (lc fuel [6] (iVal (gv 1)) (bN 6) yes (eCall 2 F__law_some (aCons (gv 0) (aCons (mkL (aCons (cst (.int 0)) (aCons (cst (.int 0)) (aCons (cst (.int 1)) (aCons (eCall 2 F__law_roll (aCons (gv 0) (aCons (cst (.int 3)) aNil))) aNil))))) aNil)))) aNil)) (bN 5))
    (sSeq (sAsg (eCall 2 F__law_sum (aCons (gv 1) (aCons (gv 5) aNil))) (bN 7))
    (sAsg (e2 addD (gv 3) (mkT (aCons (mkT (aCons (eL max2D (aCons (cst (.int 0)) (aCons (e2 subD (gv 7) (eCall 2 F__law_some (aCons (gv 0) (aCons (mkL (aCons (cst (.int 0)) (aCons (cst (.int 1)) (aCons (cst (.int 2)) (aCons (cst (.int 3)) (aCons (eCall 2 F__law_roll (aCons (gv 0) (aCons (e2 addD (gv 7) (cst (.int 1))) aNil))) aNil)))))) aNil)))) aNil))) (aCons (gv 5) aNil))) aNil))) (bN 3))))
@[irreducible] noncomputable def b__law_payers : FS := (sSeq (sAsg (mkT aNil) (bN 3))
    (sSeq (sFor fuel (iRng1 (aCons (gv 2) aNil)) (bN 4) b__law_payers_1)
    (sRet (gv 3))))
noncomputable def F__law_payers : FF := runF 8 (b__law_payers)
theorem ok__law_payers {P : Program} {w : World} {K : PySem.W.Frag} {mg : Str → Option Value} {base : Heap} (S : Fx K mg) (T : Tx K mg base tfs) : FOk P w K mg base 3 "_law_payers" 3 F__law_payers := by
  have c__law_roll := ok__law_roll (P := P) (w := w) (base := base) S T
  have c__law_some := ok__law_some (P := P) (w := w) (base := base) S T
  have c__law_sum := ok__law_sum (P := P) (w := w) (base := base) S T
  have sc := sc__law_payers
  have hN := sc.nd
  refine (Fn1.ok (k := 2) S.f__law_payers sc rfl (fun cdv A outer s H E f hr tk hp => ?_) (fun _ _ _ _ _ _ us hl => match us, hl with | [_, _, _], _ => rfl))
  have hu := hr.units
  have hu5 := room65 hr
  exact (by unfold b__law_payers b__law_payers_1; exact (dss_cons (ds_set 3 hN (de_tup da_nil))
    (dss_cons (ds_for hp rfl (di_range1 S.b_range (da_cons (de_v 2) da_nil)) (dg_n 4 hN) (dss_cons (ds_set 5 hN (de_callTy callD_tuple S.b_tuple rfl (da_cons (de_lc rfl hN (di_val (de_v 1)) (blkOk_by (own := [("value", 6)]) (by kernel_rfl)) (fun _ _ _ _ _ => (dg_n 6 hN)) (fun _ _ _ _ _ => dts_nil) (fun _ _ _ _ _ => (de_callF c__law_some tk0 (hr.mono (by omega)) (da_cons (de_v 0) (da_cons (de_lst (da_cons de_int (da_cons de_int (da_cons de_int (da_cons (de_callF c__law_roll tk0 (hr.mono (by omega)) (da_cons (de_v 0) (da_cons de_int da_nil))) da_nil))))) da_nil))))) da_nil)))
    (dss_cons (ds_set 7 hN (de_callF c__law_sum tk (hr.mono (by omega)) (da_cons (de_v 1) (da_cons (de_v 5) da_nil))))
    (dss_one (ds_set 3 hN (de_op opD_add (de_v 3) (de_tup (da_cons (de_tup (da_cons (de_callB (callD_max2 rfl) S.b_max rfl (da_cons de_int (da_cons (de_op opD_sub (de_v 7) (de_callF c__law_some tk (hr.mono (by omega)) (da_cons (de_v 0) (da_cons (de_lst (da_cons de_int (da_cons de_int (da_cons de_int (da_cons de_int (da_cons (de_callF c__law_roll tk (hr.mono (by omega)) (da_cons (de_v 0) (da_cons (de_op opD_add (de_v 7) de_int) da_nil))) da_nil)))))) da_nil)))) da_nil))) (da_cons (de_v 5) da_nil))) da_nil))))))))
    (dss_one (ds_ret (de_v 3))))))
/-! ### _law_heaps -/
theorem sc__law_heaps : FnScope ["limit", "found", "most", "more", "heap", "many"] ["limit"] (defScope (top 47)) := ⟨rfl, rfl, rfl, by decide +kernel, rfl, by decide +kernel, by decide +kernel⟩
@[irreducible] noncomputable def b__law_heaps_1 : FS := (sAsg (e2 addD (gv 3) (lc fuel [5] (iRng1 (aCons (e2 addD (gv 2) (cst (.int 1))) aNil)) (bN 5) yes (e2 addD (gv 4) (mkT (aCons (gv 5) aNil))))) (bN 3))
@[irreducible] noncomputable def b__law_heaps_2 : FS := (sSeq (sAsg (mkL aNil) (bN 3))
    (sSeq (sFor fuel (iVal (gv 1)) (bN 4) b__law_heaps_1)
    (sAsg (gv 3) (bN 1))))
@[irreducible] noncomputable def b__law_heaps : FS := (sSeq (sAsg (mkL (aCons (mkT aNil) aNil)) (bN 1))
    (sSeq (sFor fuel (iVal (gv 0)) (bN 2) b__law_heaps_2)
    (sRet (gv 1))))
noncomputable def F__law_heaps : FF := runF 6 (b__law_heaps)
theorem ok__law_heaps {P : Program} {w : World} {K : PySem.W.Frag} {mg : Str → Option Value} {base : Heap} (S : Fx K mg) (T : Tx K mg base tfs) : FOk P w K mg base 1 "_law_heaps" 1 F__law_heaps := by
  have sc := sc__law_heaps
  have hN := sc.nd
  refine (Fn1.ok (k := 0) S.f__law_heaps sc rfl (fun cdv A outer s H E f hr tk hp => ?_) (fun _ _ _ _ _ _ us hl => match us, hl with | [_], _ => rfl))
  have hu := hr.units
  have hu5 := room65 hr
  exact (by unfold b__law_heaps b__law_heaps_2 b__law_heaps_1; exact (dss_cons (ds_set 1 hN (de_lst (da_cons (de_tup da_nil) da_nil)))
    (dss_cons (ds_for hp rfl (di_val (de_v 0)) (dg_n 2 hN) (dss_cons (ds_set 3 hN (de_lst da_nil))
    (dss_cons (ds_for hp rfl (di_val (de_v 1)) (dg_n 4 hN) (dss_one (ds_set 3 hN (de_op opD_add (de_v 3) (de_lc rfl hN (di_range1 S.b_range (da_cons (de_op opD_add (de_v 2) de_int) da_nil)) (blkOk_by (own := [("many", 5)]) (by kernel_rfl)) (fun _ _ _ _ _ => (dg_n 5 hN)) (fun _ _ _ _ _ => dts_nil) (fun _ _ _ _ _ => (de_op opD_add (de_v 4) (de_tup (da_cons (de_v 5) da_nil)))))))))
    (dss_one (ds_set 1 hN (de_v 3))))))
    (dss_one (ds_ret (de_v 1))))))
/-! ### _law_tills -/
theorem sc__law_tills : FnScope ["coins", "till", "payers", "rows", "price", "given", "later", "now", "full", "one", "two", "good", "heap"] ["coins", "till", "payers"] (defScope (top 48)) := ⟨rfl, rfl, rfl, by decide +kernel, rfl, by decide +kernel, by decide +kernel⟩
@[irreducible] noncomputable def b__law_tills_1 : FS := (sSeq (sAsg (eL tupleD (aCons (lc fuel [9, 10] (iZip (aCons (gv 7) (aCons (gv 5) aNil))) (bT [(bN 9), (bN 10)]) yes (e2 addD (gv 9) (gv 10))) aNil)) (bN 8))
    (sSeq (sAsg (lc fuel [12] (iVal (eCall 1 F__law_heaps (aCons (gv 8) aNil))) (bN 12) (tst (e2 eqT (eCall 2 F__law_sum (aCons (gv 0) (aCons (gv 12) aNil))) (e2 subD (eCall 2 F__law_sum (aCons (gv 0) (aCons (gv 5) aNil))) (gv 4)))) (gv 12)) (bN 11))
    (sExp (eMt "dict" updT (gv 6) (aCons (eL dictT (aCons (lc fuel [12] (iVal (gv 11)) (bN 12) yes (mkT (aCons (eL tupleD (aCons (lc fuel [9, 10] (iZip (aCons (gv 8) (aCons (gv 12) aNil))) (bT [(bN 9), (bN 10)]) yes (e2 subD (gv 9) (gv 10))) aNil)) (aCons (cst (.bl true)) aNil)))) aNil)) aNil)))))
@[irreducible] noncomputable def b__law_tills_2 : FS := (sSeq (sAsg mkDT (bN 6))
    (sSeq (sFor fuel (iVal (e2 ixX (gv 3) (e1 negD (cst (.int 1))))) (bN 7) b__law_tills_1)
    (sExp (eMt "list" appD (gv 3) (aCons (eL sortX (aCons (gv 6) aNil)) aNil)))))
@[irreducible] noncomputable def b__law_tills : FS := (sSeq (sAsg (mkO (aCons (mkL (aCons (gv 1) aNil)) aNil)) (bN 3))
    (sSeq (sFor fuel (iVal (gv 2)) (bT [(bN 4), (bN 5)]) b__law_tills_2)
    (sRet (gv 3))))
noncomputable def F__law_tills : FF := trimF (runF 13 (b__law_tills))
theorem ok__law_tills {P : Program} {w : World} {K : PySem.W.Frag} {mg : Str → Option Value} {base : Heap} (S : Fx K mg) (T : Tx K mg base tfs) : FOk P w K mg base 2 "_law_tills" 3 F__law_tills := by
  have c__law_heaps := ok__law_heaps (P := P) (w := w) (base := base) S T
  have c__law_sum := ok__law_sum (P := P) (w := w) (base := base) S T
  have sc := sc__law_tills
  have hN := sc.nd
  refine (Fn1.ok (k := 1) S.f__law_tills sc rfl (fun cdv A outer s H E f hr tk hp => ?_) (fun _ _ _ _ _ _ us hl => match us, hl with | [_, _, _], _ => rfl)).trim
  have hu := hr.units
  have hu5 := room65 hr
  exact (by unfold b__law_tills b__law_tills_2 b__law_tills_1; exact (dss_cons (ds_set 3 hN (de_lstO (da_cons (de_lst (da_cons (de_v 1) da_nil)) da_nil)))
    (dss_cons (ds_for hp rfl (di_val (de_v 2)) (dg_t rfl (dgs_cons (dg_n 4 hN) (dgs_cons (dg_n 5 hN) dgs_nil))) (dss_cons (ds_set 6 hN de_dT)
    (dss_cons (ds_for hp rfl (di_val (de_ix (ixX_ok (Nat.lt_of_le_of_lt (Nat.add_le_add_left (by decide) _) hu5)) (de_v 3) (de_un unD_neg de_int))) (dg_n 7 hN) (dss_cons (ds_set 8 hN (de_callTy callD_tuple S.b_tuple rfl (da_cons (de_lc rfl hN (di_zip S.b_zip (da_cons (de_v 7) (da_cons (de_v 5) da_nil))) (blkOk_by (own := [("one", 9), ("two", 10)]) (by kernel_rfl)) (fun _ _ _ _ _ => (dg_t rfl (dgs_cons (dg_n 9 hN) (dgs_cons (dg_n 10 hN) dgs_nil)))) (fun _ _ _ _ _ => dts_nil) (fun _ _ _ _ _ => (de_op opD_add (de_v 9) (de_v 10)))) da_nil)))
    (dss_cons (ds_setLc 11 rfl hN (sw_true sc.kind rfl rfl rfl) (di_val (de_callF c__law_heaps tk (hr.mono (by omega)) (da_cons (de_v 8) da_nil))) (blkOk_by (own := [("heap", 12)]) (by kernel_rfl)) (fun _ _ _ _ _ => (dg_n 12 hN)) (fun _ _ _ _ _ => (dts_one (dt_cmp (opT_eq hu) (de_callF c__law_sum tk0 (hr.mono (by omega)) (da_cons (de_v 0) (da_cons (de_v 12) da_nil))) (de_op opD_sub (de_callF c__law_sum tk0 (hr.mono (by omega)) (da_cons (de_v 0) (da_cons (de_v 5) da_nil))) (de_v 4))))) (fun _ _ _ _ _ => (de_v 12)))
    (dss_one (ds_exp (de_mt PySem.F.plainAttrs_dict PySem.F.slot_dict_update PySem.F.type_dict_update (mtT_update (Nat.lt_of_le_of_lt (Nat.add_le_add_left (by decide) _) hu5)) (de_v 6) (da_cons (de_callTy (callT_dict rfl (Nat.lt_of_le_of_lt (Nat.add_le_add_left (by decide) _) hu5)) S.b_dict rfl (da_cons (de_lc rfl hN (di_val (de_v 11)) (blkOk_by (own := [("heap", 12)]) (by kernel_rfl)) (fun _ _ _ _ _ => (dg_n 12 hN)) (fun _ _ _ _ _ => dts_nil) (fun _ _ _ _ _ => (de_tup (da_cons (de_callTy callD_tuple S.b_tuple rfl (da_cons (de_lc rfl hN (di_zip S.b_zip (da_cons (de_v 8) (da_cons (de_v 12) da_nil))) (blkOk_by (own := [("one", 9), ("two", 10)]) (by kernel_rfl)) (fun _ _ _ _ _ => (dg_t rfl (dgs_cons (dg_n 9 hN) (dgs_cons (dg_n 10 hN) dgs_nil)))) (fun _ _ _ _ _ => dts_nil) (fun _ _ _ _ _ => (de_op opD_sub (de_v 9) (de_v 10)))) da_nil)) (da_cons de_bl da_nil))))) da_nil)) da_nil)))))))
    (dss_one (ds_exp (de_mt PySem.F.plainAttrs_list PySem.F.slot_list_append PySem.F.type_list_append mtD_append (de_v 3) (da_cons (de_callB (callX_sorted rfl (Nat.lt_of_le_of_lt (Nat.add_le_add_left (by decide) _) hu5)) S.b_sorted rfl (da_cons (de_v 6) da_nil)) da_nil)))))))
    (dss_one (ds_ret (de_v 3))))))
/-! ### _law_served -/
theorem sc__law_served : FnScope ["coins", "till", "payers", "rows", "row"] ["coins", "till", "payers"] (defScope (top 49)) := ⟨rfl, rfl, rfl, by decide +kernel, rfl, by decide +kernel, by decide +kernel⟩
@[irreducible] noncomputable def b__law_served : FS := (sSeq (sAsg (eCall 3 F__law_tills (aCons (gv 0) (aCons (gv 1) (aCons (gv 2) aNil)))) (bN 3))
    (sRet (e2 subD (eL lenD (aCons (lc fuel [4] (iVal (gv 3)) (bN 4) (tst (e2 neD (gv 4) (mkL aNil))) (gv 4)) aNil)) (cst (.int 1)))))
noncomputable def F__law_served : FF := runF 5 (b__law_served)
theorem ok__law_served {P : Program} {w : World} {K : PySem.W.Frag} {mg : Str → Option Value} {base : Heap} (S : Fx K mg) (T : Tx K mg base tfs) : FOk P w K mg base 3 "_law_served" 3 F__law_served := by
  have c__law_tills := ok__law_tills (P := P) (w := w) (base := base) S T
  have sc := sc__law_served
  have hN := sc.nd
  refine (Fn1.ok (k := 2) S.f__law_served sc rfl (fun cdv A outer s H E f hr tk hp => ?_) (fun _ _ _ _ _ _ us hl => match us, hl with | [_, _, _], _ => rfl))
  have hu := hr.units
  have hu5 := room65 hr
  exact (by unfold b__law_served; exact (dss_cons (ds_set 3 hN (de_callF c__law_tills tk (hr.mono (by omega)) (da_cons (de_v 0) (da_cons (de_v 1) (da_cons (de_v 2) da_nil)))))
    (dss_one (ds_ret (de_op opD_sub (de_callB callD_len S.b_len rfl (da_cons (de_lc rfl hN (di_val (de_v 3)) (blkOk_by (own := [("row", 4)]) (by kernel_rfl)) (fun _ _ _ _ _ => (dg_n 4 hN)) (fun _ _ _ _ _ => (dts_one (dt_cmp (opD_ne hu) (de_v 4) (de_lst da_nil)))) (fun _ _ _ _ _ => (de_v 4))) da_nil)) de_int)))))
/-! ### _law_is_plan -/
theorem sc__law_is_plan : FnScope ["coins", "till", "payers", "value", "price", "given", "heap", "one", "full", "two", "most"] ["coins", "till", "payers", "value"] (defScope (top 50)) := ⟨rfl, rfl, rfl, by decide +kernel, rfl, by decide +kernel, by decide +kernel⟩
@[irreducible] noncomputable def b__law_is_plan_1 : FS := (sSeq (sIf (orT (notT (tru (eL isiD (aCons (gv 6) (aCons (cst (.ty "tuple")) aNil))))) (orT (tst (e2 neD (eL lenD (aCons (gv 6) aNil)) (eL lenD (aCons (gv 0) aNil)))) (tst (e2 neD (lc fuel [7] (iVal (gv 6)) (bN 7) (orT (notT (tru (eL isiD (aCons (gv 7) (aCons (cst (.ty "int")) aNil))))) (tru (eL isiD (aCons (gv 7) (aCons (cst (.ty "bool")) aNil))))) (cst (.int 1))) (mkL aNil))))) (sRet (cst (.bl false))) sNil)
    (sSeq (sAsg (lc fuel [7, 9] (iZip (aCons (gv 1) (aCons (gv 5) aNil))) (bT [(bN 7), (bN 9)]) yes (e2 addD (gv 7) (gv 9))) (bN 8))
    (sSeq (sIf (orT (tst (e2 neD (lc fuel [7, 10] (iZip (aCons (gv 6) (aCons (gv 8) aNil))) (bT [(bN 7), (bN 10)]) (orT (tst (e2 ltI (gv 7) (cst (.int 0)))) (tst (e2 gtI (gv 7) (gv 10)))) (cst (.int 1))) (mkL aNil))) (tst (e2 neD (e2 addD (eCall 2 F__law_sum (aCons (gv 0) (aCons (gv 6) aNil))) (gv 4)) (eCall 2 F__law_sum (aCons (gv 0) (aCons (gv 5) aNil)))))) (sRet (cst (.bl false))) sNil)
    (sAsg (eL tupleD (aCons (lc fuel [7, 9] (iZip (aCons (gv 8) (aCons (gv 6) aNil))) (bT [(bN 7), (bN 9)]) yes (e2 subD (gv 7) (gv 9))) aNil)) (bN 1)))))
@[irreducible] noncomputable def b__law_is_plan : FS := (sSeq (sIf (orT (notT (tru (eL isiD (aCons (gv 3) (aCons (cst (.ty "tuple")) aNil))))) (tst (e2 neD (eL lenD (aCons (gv 3) aNil)) (eL lenD (aCons (gv 2) aNil))))) (sRet (cst (.bl false))) sNil)
    (sSeq (sFor fuel (iZip (aCons (gv 2) (aCons (gv 3) aNil))) (bT [(bT [(bN 4), (bN 5)]), (bN 6)]) b__law_is_plan_1)
    (sRet (cst (.bl true)))))
noncomputable def F__law_is_plan : FF := runF 11 (b__law_is_plan)
theorem ok__law_is_plan {P : Program} {w : World} {K : PySem.W.Frag} {mg : Str → Option Value} {base : Heap} (S : Fx K mg) (T : Tx K mg base tfs) : FOk P w K mg base 2 "_law_is_plan" 4 F__law_is_plan := by
  have c__law_sum := ok__law_sum (P := P) (w := w) (base := base) S T
  have sc := sc__law_is_plan
  have hN := sc.nd
  refine (Fn1.ok (k := 1) S.f__law_is_plan sc rfl (fun cdv A outer s H E f hr tk hp => ?_) (fun _ _ _ _ _ _ us hl => match us, hl with | [_, _, _, _], _ => rfl))
  have hu := hr.units
  have hu5 := room65 hr
  exact (by unfold b__law_is_plan b__law_is_plan_1; exact (dss_cons (ds_if (dt_w (dw_or (dt_not (dt_tru (de_callB callD_isi S.b_isinstance rfl (da_cons (de_v 3) (da_cons (de_ty S.b_tuple rfl) da_nil))))) (dw_or1 (dt_cmp (opD_ne hu) (de_callB callD_len S.b_len rfl (da_cons (de_v 3) da_nil)) (de_callB callD_len S.b_len rfl (da_cons (de_v 2) da_nil)))))) (dss_one (ds_ret de_bl)) dss_nil)
    (dss_cons (ds_for hp rfl (di_zip S.b_zip (da_cons (de_v 2) (da_cons (de_v 3) da_nil))) (dg_t rfl (dgs_cons (dg_t rfl (dgs_cons (dg_n 4 hN) (dgs_cons (dg_n 5 hN) dgs_nil))) (dgs_cons (dg_n 6 hN) dgs_nil))) (dss_cons (ds_if (dt_w (dw_or (dt_not (dt_tru (de_callB callD_isi S.b_isinstance rfl (da_cons (de_v 6) (da_cons (de_ty S.b_tuple rfl) da_nil))))) (dw_or (dt_cmp (opD_ne hu) (de_callB callD_len S.b_len rfl (da_cons (de_v 6) da_nil)) (de_callB callD_len S.b_len rfl (da_cons (de_v 0) da_nil))) (dw_or1 (dt_cmp (opD_ne hu) (de_lc rfl hN (di_val (de_v 6)) (blkOk_by (own := [("one", 7)]) (by kernel_rfl)) (fun _ _ _ _ _ => (dg_n 7 hN)) (fun _ _ _ _ _ => (dts_one (dt_w (dw_or (dt_not (dt_tru (de_callB callD_isi S.b_isinstance rfl (da_cons (de_v 7) (da_cons (de_ty S.b_int rfl) da_nil))))) (dw_or1 (dt_tru (de_callB callD_isi S.b_isinstance rfl (da_cons (de_v 7) (da_cons (de_ty S.b_bool rfl) da_nil))))))))) (fun _ _ _ _ _ => de_int)) (de_lst da_nil)))))) (dss_one (ds_ret de_bl)) dss_nil)
    (dss_cons (ds_setLc 8 rfl hN (sw_true sc.kind rfl rfl rfl) (di_zip S.b_zip (da_cons (de_v 1) (da_cons (de_v 5) da_nil))) (blkOk_by (own := [("one", 7), ("two", 9)]) (by kernel_rfl)) (fun _ _ _ _ _ => (dg_t rfl (dgs_cons (dg_n 7 hN) (dgs_cons (dg_n 9 hN) dgs_nil)))) (fun _ _ _ _ _ => dts_nil) (fun _ _ _ _ _ => (de_op opD_add (de_v 7) (de_v 9))))
    (dss_cons (ds_if (dt_w (dw_or (dt_cmp (opD_ne hu) (de_lc rfl hN (di_zip S.b_zip (da_cons (de_v 6) (da_cons (de_v 8) da_nil))) (blkOk_by (own := [("one", 7), ("most", 10)]) (by kernel_rfl)) (fun _ _ _ _ _ => (dg_t rfl (dgs_cons (dg_n 7 hN) (dgs_cons (dg_n 10 hN) dgs_nil)))) (fun _ _ _ _ _ => (dts_one (dt_w (dw_or (dt_cmp opD_lt (de_v 7) de_int) (dw_or1 (dt_cmp opD_gt (de_v 7) (de_v 10))))))) (fun _ _ _ _ _ => de_int)) (de_lst da_nil)) (dw_or1 (dt_cmp (opD_ne hu) (de_op opD_add (de_callF c__law_sum tk (hr.mono (by omega)) (da_cons (de_v 0) (da_cons (de_v 6) da_nil))) (de_v 4)) (de_callF c__law_sum tk (hr.mono (by omega)) (da_cons (de_v 0) (da_cons (de_v 5) da_nil))))))) (dss_one (ds_ret de_bl)) dss_nil)
    (dss_one (ds_set 1 hN (de_callTy callD_tuple S.b_tuple rfl (da_cons (de_lc rfl hN (di_zip S.b_zip (da_cons (de_v 8) (da_cons (de_v 6) da_nil))) (blkOk_by (own := [("one", 7), ("two", 9)]) (by kernel_rfl)) (fun _ _ _ _ _ => (dg_t rfl (dgs_cons (dg_n 7 hN) (dgs_cons (dg_n 9 hN) dgs_nil)))) (fun _ _ _ _ _ => dts_nil) (fun _ _ _ _ _ => (de_op opD_sub (de_v 7) (de_v 9)))) da_nil))))))))
    (dss_one (ds_ret de_bl)))))
/-! ### law -/
theorem sc_law : FnScope ["script", "cup", "turn", "coins", "till", "value", "payers", "rows", "many", "row", "told", "plan", "last", "price", "given", "near", "at", "heap", "some", "one"] ["script"] (defScope (top 51)) := ⟨rfl, rfl, rfl, by decide +kernel, rfl, by decide +kernel, by decide +kernel⟩
@[irreducible] noncomputable def b_law_1 : FS := (sIf (notT (tru (eCall 2 (F__law_same 4) (aCons (eCall 4 F_is_plan (aCons (gv 3) (aCons (gv 4) (aCons (gv 6) (aCons (gv 19) aNil))))) (aCons (eCall 4 F__law_is_plan (aCons (gv 3) (aCons (gv 4) (aCons (gv 6) (aCons (gv 19) aNil))))) aNil))))) (sRet (cst (.bl false))) sNil)
@[irreducible] noncomputable def b_law_2 : FS := (sSeq (sAsg (eSl slD (eCall 3 F__law_coins (aCons (gv 1) (aCons (cst (.int 3)) (aCons (cst (.int 12)) aNil)))) oNone (oSome (cst (.int 3)))) (bN 3))
    (sSeq (sAsg (eL tupleD (aCons (lc fuel [5] (iVal (gv 3)) (bN 5) yes (eCall 2 F__law_some (aCons (gv 1) (aCons (mkL (aCons (cst (.int 0)) (aCons (cst (.int 1)) (aCons (cst (.int 2)) aNil)))) aNil)))) aNil)) (bN 4))
    (sSeq (sAsg (eCall 3 F__law_payers (aCons (gv 1) (aCons (gv 3) (aCons (eCall 2 F__law_roll (aCons (gv 1) (aCons (cst (.int 5)) aNil))) aNil)))) (bN 6))
    (sSeq (sAsg (eCall 3 F__law_tills (aCons (gv 3) (aCons (gv 4) (aCons (gv 6) aNil)))) (bN 7))
    (sSeq (sAsg (e2 subD (eL lenD (aCons (lc fuel [9] (iVal (gv 7)) (bN 9) (tst (e2 neD (gv 9) (mkL aNil))) (gv 9)) aNil)) (cst (.int 1))) (bN 8))
    (sSeq (sAsg (mkT (aCons (eCall 3 F_served_many (aCons (gv 3) (aCons (gv 4) (aCons (gv 6) aNil)))) (aCons (eCall 3 F_tills_many (aCons (gv 3) (aCons (gv 4) (aCons (gv 6) aNil)))) aNil))) (bN 10))
    (sSeq (sIf (notT (tru (eCall 2 (F__law_same 4) (aCons (gv 10) (aCons (mkT (aCons (gv 8) (aCons (eL lenD (aCons (e2 ixD (gv 7) (e1 negD (cst (.int 1)))) aNil)) aNil))) aNil))))) (sRet (cst (.bl false))) sNil)
    (sSeq (sAsg (eCall 3 F_change_plan (aCons (gv 3) (aCons (gv 4) (aCons (gv 6) aNil)))) (bN 11))
    (sSeq (sIf (tst (e2 neD (e2 isD (gv 11) (cst .non)) (e2 ltI (gv 8) (eL lenD (aCons (gv 6) aNil))))) (sRet (cst (.bl false))) sNil)
    (sSeq (sIf (tst (e2 isNotD (gv 11) (cst .non))) (sSeq (sIf (orT (notT (tru (eCall 4 F__law_is_plan (aCons (gv 3) (aCons (gv 4) (aCons (gv 6) (aCons (gv 11) aNil))))))) (tst (e2 isNotD (eCall 4 F_is_plan (aCons (gv 3) (aCons (gv 4) (aCons (gv 6) (aCons (gv 11) aNil))))) (cst (.bl true))))) (sRet (cst (.bl false))) sNil)
    (sSeq (sAsg (eCall 4 F_till_behind (aCons (gv 3) (aCons (gv 4) (aCons (gv 6) (aCons (gv 11) aNil))))) (bN 12))
    (sIf (orT (tst (e2 notInD (gv 12) (e2 ixD (gv 7) (e1 negD (cst (.int 1)))))) (tst (e2 neD (eCall 2 F__law_sum (aCons (gv 3) (aCons (gv 12) aNil))) (e2 addD (eCall 2 F__law_sum (aCons (gv 3) (aCons (gv 4) aNil))) (eL sumD (aCons (lc fuel [13, 14] (iVal (gv 6)) (bT [(bN 13), (bN 14)]) yes (gv 13)) aNil)))))) (sRet (cst (.bl false))) sNil))) sNil)
    (sSeq (sAsg (mkL (aCons (gv 11) (aCons (mkT aNil) (aCons (cst .non) (aCons (eL tupleD (aCons (e2 mulT (mkL (aCons (e2 mulT (mkT (aCons (cst (.int 0)) aNil)) (eL lenD (aCons (gv 3) aNil))) aNil)) (eL lenD (aCons (gv 6) aNil))) aNil)) (aCons (eL tupleD (aCons (lc fuel [13, 14] (iVal (gv 6)) (bT [(bN 13), (bN 14)]) yes (gv 14)) aNil)) (aCons (cst (.str "plan")) (aCons (mkL (aCons (gv 11) aNil)) aNil)))))))) (bN 15))
    (sSeq (sIf (andT (tst (e2 isNotD (gv 11) (cst .non))) (tst (e2 neD (gv 6) (mkT aNil)))) (sSeq (sAsg (eCall 2 F__law_roll (aCons (gv 1) (aCons (eL lenD (aCons (gv 6) aNil)) aNil))) (bN 16))
    (sSeq (sAsg (e2 ixD (gv 11) (gv 16)) (bN 17))
    (sSeq (sAsg (mkL (aCons (eL tupleD (aCons (lc fuel [19] (iVal (gv 17)) (bN 19) yes (e2 addD (gv 19) (cst (.int 1)))) aNil)) (aCons (eSl slD (gv 17) oNone (oSome (e1 negD (cst (.int 1))))) (aCons (eL listD (aCons (gv 17) aNil)) (aCons (e2 addD (mkT (aCons (e2 subD (e2 ixD (gv 17) (cst (.int 0))) (cst (.int 1))) aNil)) (eSl slD (gv 17) (oSome (cst (.int 1))) oNone)) (aCons (e2 addD (mkT (aCons (cst .non) aNil)) (eSl slD (gv 17) (oSome (cst (.int 1))) oNone)) (aCons (e2 addD (mkT (aCons (cst (.bl true)) aNil)) (eSl slD (gv 17) (oSome (cst (.int 1))) oNone)) (aCons (e1 revA (gv 17)) (aCons (cst .non) aNil))))))))) (bN 18))
    (sAsg (e2 addD (e2 addD (gv 15) (mkL (aCons (eL listD (aCons (gv 11) aNil)) (aCons (eSl slD (gv 11) (oSome (cst (.int 1))) oNone) (aCons (e2 addD (gv 11) (eSl slD (gv 11) (oSome (e1 negD (cst (.int 1)))) oNone)) aNil))))) (lc fuel [19] (iVal (gv 18)) (bN 19) yes (e2 addD (e2 addD (eSl slD (gv 11) oNone (oSome (gv 16))) (mkT (aCons (gv 19) aNil))) (eSl slD (gv 11) (oSome (e2 addD (gv 16) (cst (.int 1)))) oNone)))) (bN 15))))) sNil)
    (sFor fuel (iVal (gv 15)) (bN 19) b_law_1)))))))))))))
@[irreducible] noncomputable def b_law : FS := (sSeq (sAsg (eCall 1 F__law_cup (aCons (gv 0) aNil)) (bN 1))
    (sSeq (sFor fuel (iRng1 (aCons (cst (.int 3)) aNil)) (bN 2) b_law_2)
    (sRet (cst (.bl true)))))
noncomputable def F_law : FF := runF 20 (b_law)
theorem law_fn {P : Program} {w : World} {K : PySem.W.Frag} {mg : Str → Option Value} {base : Heap} (S : Fx K mg) (T : Tx K mg base tfs) {fd : FuncData} (F : FunD K "law" "law" (defArgs (top 51)) (defBody (top 51)) (defScope (top 51)) [] [] (He.ga K "law") fd) : FnOk P w K mg base (L2N.CX P w) 8 (He.ga K "law") fd ["script"] (spD K 1 F_law) := by
  have c__law_coins := ok__law_coins (P := P) (w := w) (base := base) S T
  have c__law_cup := ok__law_cup (P := P) (w := w) (base := base) S T
  have c__law_is_plan := ok__law_is_plan (P := P) (w := w) (base := base) S T
  have c__law_payers := ok__law_payers (P := P) (w := w) (base := base) S T
  have c__law_roll := ok__law_roll (P := P) (w := w) (base := base) S T
  have c__law_same := ok__law_same (P := P) (w := w) (base := base) S T 4
  have c__law_some := ok__law_some (P := P) (w := w) (base := base) S T
  have c__law_sum := ok__law_sum (P := P) (w := w) (base := base) S T
  have c__law_tills := ok__law_tills (P := P) (w := w) (base := base) S T
  have c_change_plan := ok_change_plan (P := P) (w := w) (base := base) S T
  have c_is_plan := ok_is_plan (P := P) (w := w) (base := base) S T
  have c_served_many := ok_served_many (P := P) (w := w) (base := base) S T
  have c_till_behind := ok_till_behind (P := P) (w := w) (base := base) S T
  have c_tills_many := ok_tills_many (P := P) (w := w) (base := base) S T
  have sc := sc_law
  have hN := sc.nd
  refine fn_ok (k := 7) F sc rfl (fun cdv A outer s H E hr => ?_)
  have tk : L2N.Takes (cxOf (L2N.CX P w) P w K mg base ["script", "cup", "turn", "coins", "till", "value", "payers", "rows", "many", "row", "told", "plan", "last", "price", "given", "near", "at", "heap", "some", "one"] "law" (defScope (top 51)) (He.ga K "law") cdv A outer s H E) (fun c d _ H => E c d H) := L2N.takes_of rfl rfl rfl rfl
  have hp : PassesOwn (model P w) (A.deeper (envOfC "law" (defScope (top 51)) s.heap.objs.size (He.ga K "law") cdv)) (envOfC "law" (defScope (top 51)) s.heap.objs.size (He.ga K "law") cdv) (cxOf (L2N.CX P w) P w K mg base ["script", "cup", "turn", "coins", "till", "value", "payers", "rows", "many", "row", "told", "plan", "last", "price", "given", "near", "at", "heap", "some", "one"] "law" (defScope (top 51)) (He.ga K "law") cdv A outer s H E).xe := passes_of rfl
  have hu := hr.units
  have hu5 := room65 hr
  exact (by unfold b_law b_law_2 b_law_1; exact (dss_cons (ds_set 1 hN (de_callF c__law_cup tk (hr.mono (by omega)) (da_cons (de_v 0) da_nil)))
    (dss_cons (ds_for hp rfl (di_range1 S.b_range (da_cons de_int da_nil)) (dg_n 2 hN) (dss_cons (ds_set 3 hN (de_slice slD_ok (de_callF c__law_coins tk (hr.mono (by omega)) (da_cons (de_v 1) (da_cons de_int (da_cons de_int da_nil)))) do_none (do_some de_int)))
    (dss_cons (ds_set 4 hN (de_callTy callD_tuple S.b_tuple rfl (da_cons (de_lc rfl hN (di_val (de_v 3)) (blkOk_by (own := [("value", 5)]) (by kernel_rfl)) (fun _ _ _ _ _ => (dg_n 5 hN)) (fun _ _ _ _ _ => dts_nil) (fun _ _ _ _ _ => (de_callF c__law_some tk0 (hr.mono (by omega)) (da_cons (de_v 1) (da_cons (de_lst (da_cons de_int (da_cons de_int (da_cons de_int da_nil)))) da_nil))))) da_nil)))
    (dss_cons (ds_set 6 hN (de_callF c__law_payers tk (hr.mono (by omega)) (da_cons (de_v 1) (da_cons (de_v 3) (da_cons (de_callF c__law_roll tk (hr.mono (by omega)) (da_cons (de_v 1) (da_cons de_int da_nil))) da_nil)))))
    (dss_cons (ds_set 7 hN (de_callF c__law_tills tk (hr.mono (by omega)) (da_cons (de_v 3) (da_cons (de_v 4) (da_cons (de_v 6) da_nil)))))
    (dss_cons (ds_set 8 hN (de_op opD_sub (de_callB callD_len S.b_len rfl (da_cons (de_lc rfl hN (di_val (de_v 7)) (blkOk_by (own := [("row", 9)]) (by kernel_rfl)) (fun _ _ _ _ _ => (dg_n 9 hN)) (fun _ _ _ _ _ => (dts_one (dt_cmp (opD_ne hu) (de_v 9) (de_lst da_nil)))) (fun _ _ _ _ _ => (de_v 9))) da_nil)) de_int))
    (dss_cons (ds_set 10 hN (de_tup (da_cons (de_callF c_served_many tk (hr.mono (by omega)) (da_cons (de_v 3) (da_cons (de_v 4) (da_cons (de_v 6) da_nil)))) (da_cons (de_callF c_tills_many tk (hr.mono (by omega)) (da_cons (de_v 3) (da_cons (de_v 4) (da_cons (de_v 6) da_nil)))) da_nil))))
    (dss_cons (ds_if (dt_not (dt_tru (de_callF c__law_same tk (hr.mono (by omega)) (da_cons (de_v 10) (da_cons (de_tup (da_cons (de_v 8) (da_cons (de_callB callD_len S.b_len rfl (da_cons (de_ix ixD_seq (de_v 7) (de_un unD_neg de_int)) da_nil)) da_nil))) da_nil))))) (dss_one (ds_ret de_bl)) dss_nil)
    (dss_cons (ds_set 11 hN (de_callF c_change_plan tk (hr.mono (by omega)) (da_cons (de_v 3) (da_cons (de_v 4) (da_cons (de_v 6) da_nil)))))
    (dss_cons (ds_if (dt_cmp (opD_ne hu) (de_cmp opD_is (de_v 11) de_non) (de_cmp opD_lt (de_v 8) (de_callB callD_len S.b_len rfl (da_cons (de_v 6) da_nil)))) (dss_one (ds_ret de_bl)) dss_nil)
    (dss_cons (ds_if (dt_cmp opD_isNot (de_v 11) de_non) (dss_cons (ds_if (dt_w (dw_or (dt_not (dt_tru (de_callF c__law_is_plan tk (hr.mono (by omega)) (da_cons (de_v 3) (da_cons (de_v 4) (da_cons (de_v 6) (da_cons (de_v 11) da_nil))))))) (dw_or1 (dt_cmp opD_isNot (de_callF c_is_plan tk (hr.mono (by omega)) (da_cons (de_v 3) (da_cons (de_v 4) (da_cons (de_v 6) (da_cons (de_v 11) da_nil))))) de_bl)))) (dss_one (ds_ret de_bl)) dss_nil)
    (dss_cons (ds_set 12 hN (de_callF c_till_behind tk (hr.mono (by omega)) (da_cons (de_v 3) (da_cons (de_v 4) (da_cons (de_v 6) (da_cons (de_v 11) da_nil))))))
    (dss_one (ds_if (dt_w (dw_or (dt_cmp (opD_notIn hu5) (de_v 12) (de_ix ixD_seq (de_v 7) (de_un unD_neg de_int))) (dw_or1 (dt_cmp (opD_ne hu) (de_callF c__law_sum tk (hr.mono (by omega)) (da_cons (de_v 3) (da_cons (de_v 12) da_nil))) (de_op opD_add (de_callF c__law_sum tk (hr.mono (by omega)) (da_cons (de_v 3) (da_cons (de_v 4) da_nil))) (de_callB (callD_sum rfl) S.b_sum rfl (da_cons (de_lc rfl hN (di_val (de_v 6)) (blkOk_by (own := [("price", 13), ("given", 14)]) (by kernel_rfl)) (fun _ _ _ _ _ => (dg_t rfl (dgs_cons (dg_n 13 hN) (dgs_cons (dg_n 14 hN) dgs_nil)))) (fun _ _ _ _ _ => dts_nil) (fun _ _ _ _ _ => (de_v 13))) da_nil))))))) (dss_one (ds_ret de_bl)) dss_nil)))) dss_nil)
    (dss_cons (ds_set 15 hN (de_lst (da_cons (de_v 11) (da_cons (de_tup da_nil) (da_cons de_non (da_cons (de_callTy callD_tuple S.b_tuple rfl (da_cons (de_op opT_mul (de_lst (da_cons (de_op opT_mul (de_tup (da_cons de_int da_nil)) (de_callB callD_len S.b_len rfl (da_cons (de_v 3) da_nil))) da_nil)) (de_callB callD_len S.b_len rfl (da_cons (de_v 6) da_nil))) da_nil)) (da_cons (de_callTy callD_tuple S.b_tuple rfl (da_cons (de_lc rfl hN (di_val (de_v 6)) (blkOk_by (own := [("price", 13), ("given", 14)]) (by kernel_rfl)) (fun _ _ _ _ _ => (dg_t rfl (dgs_cons (dg_n 13 hN) (dgs_cons (dg_n 14 hN) dgs_nil)))) (fun _ _ _ _ _ => dts_nil) (fun _ _ _ _ _ => (de_v 14))) da_nil)) (da_cons de_str (da_cons (de_lst (da_cons (de_v 11) da_nil)) da_nil)))))))))
    (dss_cons (ds_if (dt_w (dw_and (dt_cmp opD_isNot (de_v 11) de_non) (dw_and1 (dt_cmp (opD_ne hu) (de_v 6) (de_tup da_nil))))) (dss_cons (ds_set 16 hN (de_callF c__law_roll tk (hr.mono (by omega)) (da_cons (de_v 1) (da_cons (de_callB callD_len S.b_len rfl (da_cons (de_v 6) da_nil)) da_nil))))
    (dss_cons (ds_set 17 hN (de_ix ixD_seq (de_v 11) (de_v 16)))
    (dss_cons (ds_set 18 hN (de_lst (da_cons (de_callTy callD_tuple S.b_tuple rfl (da_cons (de_lc rfl hN (di_val (de_v 17)) (blkOk_by (own := [("one", 19)]) (by kernel_rfl)) (fun _ _ _ _ _ => (dg_n 19 hN)) (fun _ _ _ _ _ => dts_nil) (fun _ _ _ _ _ => (de_op opD_add (de_v 19) de_int))) da_nil)) (da_cons (de_slice slD_ok (de_v 17) do_none (do_some (de_un unD_neg de_int))) (da_cons (de_callTy callD_list S.b_list rfl (da_cons (de_v 17) da_nil)) (da_cons (de_op opD_add (de_tup (da_cons (de_op opD_sub (de_ix ixD_seq (de_v 17) de_int) de_int) da_nil)) (de_slice slD_ok (de_v 17) (do_some de_int) do_none)) (da_cons (de_op opD_add (de_tup (da_cons de_non da_nil)) (de_slice slD_ok (de_v 17) (do_some de_int) do_none)) (da_cons (de_op opD_add (de_tup (da_cons de_bl da_nil)) (de_slice slD_ok (de_v 17) (do_some de_int) do_none)) (da_cons (de_revA (de_v 17)) (da_cons de_non da_nil))))))))))
    (dss_one (ds_set 15 hN (de_op opD_add (de_op opD_add (de_v 15) (de_lst (da_cons (de_callTy callD_list S.b_list rfl (da_cons (de_v 11) da_nil)) (da_cons (de_slice slD_ok (de_v 11) (do_some de_int) do_none) (da_cons (de_op opD_add (de_v 11) (de_slice slD_ok (de_v 11) (do_some (de_un unD_neg de_int)) do_none)) da_nil))))) (de_lc rfl hN (di_val (de_v 18)) (blkOk_by (own := [("one", 19)]) (by kernel_rfl)) (fun _ _ _ _ _ => (dg_n 19 hN)) (fun _ _ _ _ _ => dts_nil) (fun _ _ _ _ _ => (de_op opD_add (de_op opD_add (de_slice slD_ok (de_v 11) do_none (do_some (de_v 16))) (de_tup (da_cons (de_v 19) da_nil))) (de_slice slD_ok (de_v 11) (do_some (de_op opD_add (de_v 16) de_int)) do_none)))))))))) dss_nil)
    (dss_one (ds_for hp rfl (di_val (de_v 15)) (dg_n 19 hN) (dss_one (ds_if (dt_not (dt_tru (de_callF c__law_same tk (hr.mono (by omega)) (da_cons (de_callF c_is_plan tk (hr.mono (by omega)) (da_cons (de_v 3) (da_cons (de_v 4) (da_cons (de_v 6) (da_cons (de_v 19) da_nil))))) (da_cons (de_callF c__law_is_plan tk (hr.mono (by omega)) (da_cons (de_v 3) (da_cons (de_v 4) (da_cons (de_v 6) (da_cons (de_v 19) da_nil))))) da_nil))))) (dss_one (ds_ret de_bl)) dss_nil)))))))))))))))))
    (dss_one (ds_ret de_bl)))))
end K96
namespace K96
open PySem PySem.Spec PyProof.Rows L2 Dn
theorem cup_ok : CupOk F__law_cup := by
  intro ns hl
  refine (fun (h : wpR (F__law_cup [.scr (ns.map D.int)] []) (fun d η => d = .obj 0 ∧ Cup 0 η) (fun _ _ => False)) => ?_) ?_
  · obtain ⟨a, η, e, rfl, c⟩ := ok_of_wpR h
    exact ⟨η, e, c⟩
  unfold F__law_cup b__law_cup
  rw [w_runF]
  have key : ∃ c : Int, atI (ns.map D.int ++ [.int 0]) 0 = some (.int c) := by
    cases ns with
    | nil => exact ⟨0, by simp⟩
    | cons n r => exact ⟨n, by simp⟩
  obtain ⟨c, hc⟩ := key
  have h64 : ns.length + 1 ≤ sizeLine := Nat.le_trans (Nat.succ_le_succ hl) (by decide)
  simp [hc, h64]
  generalize hA : (if c < 0 then -c else c) = A
  have h0 : 0 ≤ A := by rw [← hA]; split <;> omega
  have hm : (A * 479 + 4349) % 2077502627 + 337 ≥ 0 := by have := Int.emod_nonneg (A * 479 + 4349) (show (2077502627 : Int) ≠ 0 by decide); omega
  split
  · exact ⟨_, _, by omega, hm, rfl⟩
  · exact ⟨_, _, by omega, hm, rfl⟩
theorem roll_ok : RollOk F__law_roll := by
  intro k η m ⟨a, b, ha, hb, e⟩ h0 h1
  refine (fun (h : wpR (F__law_roll [.obj k, .int m] η) (fun d η' => ∃ r, d = .int r ∧ 0 ≤ r ∧ r < m ∧ Cup k η' ∧ Keep k η η') (fun _ _ => False)) => ?_) ?_
  · obtain ⟨d, η', e, r, rfl, h2, h3, c, kp⟩ := ok_of_wpR h
    exact ⟨r, η', e, h2, h3, c, kp⟩
  unfold F__law_roll b__law_roll
  rw [w_runF]
  have cu : Cup k η := ⟨a, b, ha, hb, e⟩
  have kl := cu.lt
  have hd : divOk m := ⟨h0, .inl h1⟩
  by_cases h : 0 < a
  · simp [ixD_obj e, setD_obj e, h, h0, hd, ixN, kl]
    exact ⟨Int.emod_nonneg _ (by omega), Int.emod_lt_of_pos _ h0, ⟨a / m, b, Int.ediv_nonneg ha (by omega), hb, by simp [kl]⟩, Keep.set⟩
  · have e2 : ∀ x : D, (η.set k (.lst [.int a, x]))[k]? = some (.lst [.int a, x]) := fun x => by simp [kl]
    have hb2 : 0 ≤ (b * 31181 + 8167) % 2147482507 := Int.emod_nonneg _ (by decide)
    have hb3 : (b * 31181 + 8167) % 2147482507 < 2147482507 := Int.emod_lt_of_pos _ (by decide)
    have hmul : mulOk ((b * 31181 + 8167) % 2147482507) ((b * 31181 + 8167) % 2147482507 + 383) := mulOk_l (by omega) (by omega)
    simp [ixD_obj e, setD_obj e, h, h0, hd, ixN, kl, ixD_obj (e2 _), hmul]
    exact ⟨Int.emod_nonneg _ (by omega), Int.emod_lt_of_pos _ h0, ⟨a, _, ha, hb2, by simp [kl]⟩, Keep.set⟩
theorem some_ok : SomeOk F__law_some := by
  intro k η xs c h0 h1
  refine (fun (h : wpR (F__law_some [.obj k, .lst xs] η) (fun x η' => ∃ i : Nat, xs[i]? = some x ∧ Cup k η' ∧ Keep k η η') (fun _ _ => False)) => ?_) ?_
  · obtain ⟨d, η', e, i, h2, c, kp⟩ := ok_of_wpR h
    exact ⟨i, d, η', e, h2, c, kp⟩
  unfold F__law_some b__law_some
  rw [w_runF]
  simp
  refine roll_ok.wp c (by omega) (by omega) fun r η' h2 h3 c2 kp => ?_
  have hr : r.toNat < xs.length := by omega
  simp [atI_pos h2 h3, List.getElem?_eq_getElem hr]
  exact ⟨⟨r.toNat, by simp [hr]⟩, c2, kp⟩
theorem same_ok : SameOk F__law_same := by
  intro n
  induction n with
  | zero =>
    intro d η h
    refine ok_of_wpR1 ?_
    unfold F__law_same b__law_same
    rw [w_runF]
    cases d with
    | non => simp
    | bl b => cases b <;> simp
    | int i => simp
    | str x =>
      have hx : PyData.canLay0 (.str x) = true := by simpa [D.sm] using h
      simp [strD, eqD_str hx]
    | _ => simp [D.sm] at h
  | succ n ih =>
    intro d η h
    refine ok_of_wpR1 ?_
    unfold F__law_same b__law_same
    rw [w_runF]
    cases d with
    | non => simp
    | bl b => cases b <;> simp
    | int i => simp
    | str x =>
      have hx : PyData.canLay0 (.str x) = true := by simpa [D.sm] using h
      simp [strD, eqD_str hx]
    | tup xs =>
      simp [D.sm] at h
      have hb : big62 (xs.length : Int) := ⟨by omega, by omega⟩
      simp [w_lc, hb, w_nx, cmpS]
      refine wpR_of (cmp_map (fun _ => .bl true) _ fun x hx => ?_) ?_
      · obtain ⟨i, hi, rfl⟩ := mem_rng.mp hx
        replace hi : i < xs.length := by simpa using hi
        refine ⟨_, rfl, rfl, ok_of_wpR1 ?_⟩
        have e : atI xs (i : Int) = some xs[i] := atI_nat hi
        simp [wipeD, e]
        exact wpR_of (ih _ η (h.1 _ (List.getElem_mem hi))) ⟨rfl, rfl⟩
      · rw [map_const, rng_length]
        simp [allD_lst, boolsOf_true]
        exact szle h.2
    | _ => simp [D.sm] at h
end K96
namespace K96
open PySem PySem.Spec PyProof.Rows L2 Dn
open N97 (T Pay Lay addL subL sumIn chg keys)
variable {η : Store}
/-- a list of whole numbers -/
def tI (t : T) : D := .tup (t.map D.int)
theorem whole_ok {d : D} {a : Ty} (h : tyOf d η = some a) : F_is_whole [d] η = .ok (.bl (decide (a = .int))) η := by
  refine ok_of_wpR1 ?_
  unfold F_is_whole b_is_whole
  rw [w_runF]
  have e1 : ∀ {n : String} {b : Ty}, tyNm n = some b → isiD [d, .ty n] η = some (.bl (tyB a b), η) := fun e => isi_of h e
  simp [e1 tyNm_int, e1 tyNm_bool]
  cases a <;> simp
theorem fits_int {i lo hi : Int} : F_fits_whole [.int i, .int lo, .int hi] η = .ok (.bl (decide (lo ≤ i) && decide (i ≤ hi))) η := by
  refine ok_of_wpR1 ?_
  unfold F_fits_whole b_fits_whole
  rw [w_runF]
  simp
  refine wpR_of (whole_ok rfl) ?_
  by_cases h : lo ≤ i <;> simp [h]
theorem fits_yes {i lo hi : Int} (h : lo ≤ i) (h2 : i ≤ hi) : F_fits_whole [.int i, .int lo, .int hi] η = .ok (.bl true) η := by
  rw [fits_int]; simp [h, h2]
theorem tupof_tup {xs : List D} {lo hi : Int} : F_is_tuple_of [.tup xs, .int lo, .int hi] η = .ok (.bl (decide (lo ≤ xs.length) && decide ((xs.length : Int) ≤ hi))) η := by
  refine ok_of_wpR1 ?_
  unfold F_is_tuple_of b_is_tuple_of
  rw [w_runF]
  by_cases h : lo ≤ (xs.length : Int) <;> simp [h]
theorem rising_ok {ns : List Int} (h : ns.length ≤ 1000) : F_is_rising [tI ns] η = .ok (.bl (rise ns)) η := by
  refine ok_of_wpR1 ?_
  unfold F_is_rising b_is_rising
  rw [w_runF]
  simp only [tI, List.map_cons, List.map_nil, w_ret, w_eL, w_aCons, w_aNil, w_lc, w_iZip, w_gv, w_eSl, w_oSome, w_oNone, w_cst, isI_int, wpO_some, slD_tup, cutL_from1, w_nx]
  simp only [List.cons_append, List.getElem?_cons_zero, wpO_some, slD_tup, cutL_from1, twoD_two, sqOf_tup, zipS_val, cmpS]
  rw [← List.map_tail, zip_maps]
  refine wpR_of (cmp_of _ (fun p => .bl (decide (p.1 < p.2))) _ fun p _ => ⟨_, rfl, rfl, ok_of_wpR1 ?_⟩) ?_
  · simp [wipeD]
  · simp only [allD_lst, boolsOf_map, Option.map_some, wpO_some, rise_zip]
    refine ⟨szle ?_, ?_, trivial⟩
    · simp; omega
    · rw [List.all_map]; rfl
theorem ints_comp {N : Nat} {vs : List Nat} {i : Nat} {xs : T} : True := trivial
/-- all(fits_whole(one, lo, hi)) -/
theorem allfits {ρ : Dn.Env} {ns : T} {lo hi : Int} {j : Nat} (hj : j < ρ.length) (h : ∀ x ∈ ns, lo ≤ x ∧ x ≤ hi) :
    cmp (bN j) yes (eCall 3 F_fits_whole (aCons (gv j) (aCons (cst (.int lo)) (aCons (cst (.int hi)) aNil)))) ρ (ns.map D.int) η = .ok (ns.map fun _ => .bl true) η :=
  cmp_of _ (fun _ => .bl true) _ fun x hx => ⟨_, rfl, rfl, ok_of_wpR1 (by
    simp [hj]
    exact wpR_of (fits_yes (h x hx).1 (h x hx).2) ⟨rfl, rfl⟩)⟩
theorem all_true {α : Type} (l : List α) : allD [.lst (l.map fun _ => D.bl true)] η = some (.bl true, η) := by
  rw [allD_lst, boolsOf_map]
  simp
/-- coins -/
structure COk (c : T) : Prop where
  le : c.length ≤ 3
  ge : 1 ≤ c.length
  rng : ∀ x ∈ c, 1 ≤ x ∧ x ≤ 12
  rs : rise c = true
theorem coins_ok {c : T} (h : COk c) : F_fits_coins [tI c] η = .ok (.bl true) η := by
  refine ok_of_wpR1 ?_
  unfold F_fits_coins b_fits_coins
  rw [w_runF]
  have h1 := h.ge; have h2 := h.le
  simp [w_lc, w_nx, cmpS, tI]
  refine wpR_of tupof_tup ?_
  have a1 : (1 : Int) ≤ c.length := by omega
  have a2 : (c.length : Int) ≤ 12 := by omega
  simp [a1, a2]
  refine wpR_of (allfits (by simp [wipeD]) fun x hx => ⟨(h.rng x hx).1, by have := (h.rng x hx).2; omega⟩) ?_
  rw [all_true]
  simp
  refine ⟨szle (by omega), ?_⟩
  refine wpR_of (rising_ok (by omega)) ?_
  simp [h.rs]
theorem needcoins_ok {c : T} (h : COk c) : F_need_coins [tI c] η = .ok .non η := by
  refine ok_of_wpR1 ?_
  unfold F_need_coins b_need_coins
  rw [w_runF]
  simp
  refine wpR_of (coins_ok h) ?_
  simp
theorem needfew_ok {c : T} (h : COk c) : F_need_few [tI c] η = .ok .non η := by
  refine ok_of_wpR1 ?_
  unfold F_need_few b_need_few
  rw [w_runF]
  have h2 := h.le
  simp
  refine wpR_of (needcoins_ok h) ?_
  simp [tI]
  omega
theorem till_ok {c t : T} (hl : t.length = c.length) (hc : c.length ≤ 12) (h : ∀ x ∈ t, 0 ≤ x ∧ x ≤ 12) : F_fits_till [tI c, tI t] η = .ok (.bl true) η := by
  refine ok_of_wpR1 ?_
  unfold F_fits_till b_fits_till
  rw [w_runF]
  simp [w_lc, w_nx, cmpS, tI]
  refine wpR_of tupof_tup ?_
  simp [hl]
  refine wpR_of (allfits (by simp [wipeD]) h) ?_
  rw [all_true]
  simp
  exact szle (by omega)
theorem comp2 {g : G2} {f : Int → Int → Int} {ρ : Dn.Env} {a b : T} {i j : Nat} (hi : i < ρ.length) (hj : j < ρ.length) (hij : i ≠ j) (h : ∀ x y (η : Store), g (.int x) (.int y) η = some (.int (f x y), η)) :
    cmp (bT [bN i, bN j]) yes (e2 g (gv i) (gv j)) ρ (List.zipWith (fun x y => D.tup [D.int x, D.int y]) a b) η = .ok ((a.zip b).map fun p => .int (f p.1 p.2)) η := by
  rw [zw_zip]
  exact cmp_of _ (fun p : Int × Int => .int (f p.1 p.2)) _ fun p _ => ⟨_, rfl, rfl, ok_of_wpR1 (by
    simp [hi, hj, hij, Ne.symm hij, h])⟩
theorem given_ok {a b : T} (ha : a.length ≤ 1000) : F_with_given [tI a, tI b] η = .ok (tI (addL a b)) η := by
  refine ok_of_wpR1 ?_
  unfold F_with_given b_with_given
  rw [w_runF]
  simp [w_lc, w_nx, cmpS, tI]
  refine wpR_of (comp2 (i := 2) (j := 3) (f := fun x y => x + y) ?_ ?_ (by decide) fun x y η => rfl) ?_
  · simp [wipeD]
  · simp [wipeD]
  simp
  refine ⟨szle (by omega), ?_⟩
  simp [addL]
theorem without_ok {a b : T} (ha : a.length ≤ 1000) : F_without [tI a, tI b] η = .ok (tI (subL a b)) η := by
  refine ok_of_wpR1 ?_
  unfold F_without b_without
  rw [w_runF]
  simp [w_lc, w_nx, cmpS, tI]
  refine wpR_of (comp2 (i := 2) (j := 3) (f := fun x y => x - y) ?_ ?_ (by decide) fun x y η => rfl) ?_
  · simp [wipeD]
  · simp [wipeD]
  simp
  refine ⟨szle (by omega), ?_⟩
  simp [subL]
end K96
namespace K96
open PySem PySem.Spec PyProof.Rows L2 Dn
open N97 (T Pay Lay addL subL sumIn chg keys rg stepC runC)
variable {η : Store}
theorem sumcomp {ρ : Dn.Env} {a b : T} {i j : Nat} (hi : i < ρ.length) (hj : j < ρ.length) (hij : i ≠ j) (h : ∀ x ∈ a, 1 ≤ x ∧ x ≤ 12) :
    cmp (bT [bN i, bN j]) yes (e2 mulD (gv i) (gv j)) ρ (List.zipWith (fun x y => D.tup [D.int x, D.int y]) a b) η = .ok ((a.zip b).map fun p => .int (p.1 * p.2)) η := by
  rw [zw_zip]
  exact cmp_of _ (fun p : Int × Int => .int (p.1 * p.2)) _ fun p hp => ⟨_, rfl, rfl, ok_of_wpR1 (by
    have := h p.1 (List.of_mem_zip hp).1
    simp [hi, hj, hij, Ne.symm hij]
    exact mulOk_l (by omega) (by omega))⟩
theorem sum_ok {c h : T} (hc : ∀ x ∈ c, 1 ≤ x ∧ x ≤ 12) (hl : c.length ≤ 1000) : F_sum_in [tI c, tI h] η = .ok (.int (sumIn c h)) η := by
  refine ok_of_wpR1 ?_
  unfold F_sum_in b_sum_in
  rw [w_runF]
  simp [w_lc, w_nx, cmpS, tI]
  refine wpR_of (sumcomp (i := 2) (j := 3) ?_ ?_ (by decide) hc) ?_
  · simp [wipeD]
  · simp [wipeD]
  rw [sumD_lst, intsOf_map (fun p : Int × Int => p.1 * p.2)]
  simp
  refine ⟨szle (by omega), ?_⟩
  rfl
theorem lawsum_ok {c h : T} (hc : ∀ x ∈ c, 1 ≤ x ∧ x ≤ 12) (hl : c.length ≤ 1000) : F__law_sum [tI c, tI h] η = .ok (.int (sumIn c h)) η := by
  refine ok_of_wpR1 ?_
  unfold F__law_sum b__law_sum
  rw [w_runF]
  simp [w_lc, w_nx, cmpS, tI]
  refine wpR_of (sumcomp (i := 2) (j := 3) ?_ ?_ (by decide) hc) ?_
  · simp [wipeD]
  · simp [wipeD]
  rw [sumD_lst, intsOf_map (fun p : Int × Int => p.1 * p.2)]
  simp
  refine ⟨szle (by omega), ?_⟩
  rfl
/-! ### payers -/
def pD (p : Pay) : D := .tup [.int p.1, tI p.2]
def psD (ps : List Pay) : D := .tup (ps.map pD)
structure PayOk (c : T) (p : Pay) : Prop where
  len : p.2.length = c.length
  rng : ∀ x ∈ p.2, 0 ≤ x ∧ x ≤ 12
  lo : 0 ≤ p.1
  hi : p.1 ≤ 1000
  le : p.1 ≤ sumIn c p.2
structure QOk (c t : T) (ps : List Pay) : Prop where
  ck : COk c
  tl : t.length = c.length
  tr : ∀ x ∈ t, 0 ≤ x ∧ x ≤ 12
  pk : ∀ p ∈ ps, PayOk c p
  pl : ps.length ≤ 8
theorem payer_ok {c : T} {p : Pay} (hc : COk c) (h : PayOk c p) : F_fits_payer [tI c, pD p] η = .ok (.bl true) η := by
  refine ok_of_wpR1 ?_
  unfold F_fits_payer b_fits_payer
  rw [w_runF]
  simp [pD]
  refine wpR_of tupof_tup ?_
  simp
  refine wpR_of (fits_yes h.lo h.hi) ?_
  simp
  refine wpR_of (till_ok h.len (by have := hc.le; omega) h.rng) ?_
  simp
  refine wpR_of (sum_ok hc.rng (by have := hc.le; omega)) ?_
  simp [h.le]
theorem payers_ok {c : T} {ps : List Pay} (hc : COk c) (h : ∀ p ∈ ps, PayOk c p) (hl : ps.length ≤ 8) : F_fits_payers [tI c, psD ps] η = .ok (.bl true) η := by
  refine ok_of_wpR1 ?_
  unfold F_fits_payers b_fits_payers
  rw [w_runF]
  have h1 : (ps.length : Int) ≤ 8 := by omega
  have h0 : (0 : Int) ≤ ps.length := by omega
  simp [w_lc, w_nx, cmpS, psD]
  refine wpR_of tupof_tup ?_
  simp [h1, h0]
  refine wpR_of (cmp_of pD (fun _ => .bl true) ps fun p hp => ⟨_, rfl, rfl, ok_of_wpR1 (by
    simp [wipeD]
    exact wpR_of (payer_ok hc (h p hp)) ⟨rfl, rfl⟩)⟩) ?_
  rw [all_true]
  simp
  exact szle (by omega)
theorem needq_ok {c t : T} {ps : List Pay} (h : QOk c t ps) : F_need_queue [tI c, tI t, psD ps] η = .ok .non η := by
  refine ok_of_wpR1 ?_
  unfold F_need_queue b_need_queue
  rw [w_runF]
  simp
  refine wpR_of (needfew_ok h.ck) ?_
  refine wpR_of (till_ok h.tl (by have := h.ck.le; omega) h.tr) ?_
  simp
  refine wpR_of (payers_ok h.ck h.pk h.pl) ?_
  simp
end K96
namespace K96
open PySem PySem.Spec PyProof.Rows L2 Dn
open N97 (T Pay Lay addL subL sumIn chg keys rg stepC runC)
variable {η : Store}
def pr (x : T × Int) : D := .tup [tI x.1, .int x.2]
theorem rng_rg (n : Int) : rng 0 n.toNat = (rg n).map D.int := by
  unfold rng rg
  rw [List.map_map]
  exact List.map_congr_left fun i _ => by simp
theorem low_tI {n : Nat} (t : T) : D.low n (tI t) = true := low_tup
theorem lows_tI {n : Nat} : ∀ l : List T, D.lows n (l.map tI) = true
  | [] => rfl
  | t :: l => by
    show (D.low n (tI t) && D.lows n (l.map tI)) = true
    rw [lows_tI l, low_tI]; rfl
theorem take_succ_at {α : Type} {l : List α} {j : Nat} {x : α} (h : l[j]? = some x) : l.take (j + 1) = l.take j ++ [x] := by
  rw [List.take_add_one, h]; rfl
theorem getset {k : Nat} {o : O} {η : Store} (h : k < η.length) : (η.set k o)[k]? = some o := by simp [h]
theorem setset {k : Nat} {o o' : O} {η : Store} : (η.set k o).set k o' = η.set k o' := by simp
theorem appset {x o : O} {η : Store} : (η ++ [x]).set η.length o = η ++ [o] := by simp
theorem getapp {x : O} {η : Store} : (η ++ [x])[η.length]? = some x := by simp
/-- found: told as a list value, or a list among the new things -/
def Fnd (η : Store) (d : D) (η' : Store) (f : List D) : Prop := d = .lst f ∨ ∃ k, d = .obj k ∧ η.length ≤ k ∧ η'[k]? = some (.lst f)
theorem augExt_at {k : Nat} {xs ys : List D} {η : Store} (h : η[k]? = some (.lst xs)) (hl : xs.length + ys.length ≤ 1000000) : augExt (.obj k) (.lst ys) η = some (.obj k, η.set k (.lst (xs ++ ys))) := by
  have h1 : objL (.obj k) η = some (k, xs) := by unfold objL; dsimp only; rw [h]
  have h2 : lstOf (.lst ys) η = some ys := rfl
  unfold augExt
  rw [h1, h2]
  exact if_pos (szle hl)
/-- one turn: more += [..] -/
theorem chg1_ok {c t : T} {v m : Int} {q : T × Int} {x2 x3 x9 : Option D} {k : Nat} {F : List (T × Int)} {P : Po} {η : Store} (hv : 1 ≤ v) (hv2 : v ≤ 12) (hm : 0 ≤ m) (hm2 : m ≤ 79) (hq : 0 ≤ q.2) (hqs : q.1.length ≤ 10) (hk : η[k]? = some (.lst (F.map pr))) (hF : F.length ≤ 600000)
    (p : P.nx [some (tI c), some (tI t), x2, x3, some (.int v), some (.int m), some (.obj k), some (tI q.1), some (.int q.2), x9] (η.set k (.lst ((F ++ stepC v m [q]).map pr)))) :
    Dn.wpS (b_changes_1 [some (tI c), some (tI t), x2, x3, some (.int v), some (.int m), some (.obj k), some (tI q.1), some (.int q.2), x9] η) P := by
  unfold b_changes_1
  have e0 : (if q.2 / v < m then q.2 / v else m) = min m (q.2 / v) := by
    by_cases h : q.2 / v < m
    · rw [if_pos h]; omega
    · rw [if_neg h]; omega
  have e1 : 0 ≤ q.2 / v := Int.ediv_nonneg hq (by omega)
  have e2 : min m (q.2 / v) ≤ 79 := by omega
  have e3 : 0 ≤ min m (q.2 / v) := by omega
  simp [w_lc, w_nx, cmpS, wipeD]
  refine ⟨divOk_lit (by omega) (by omega), ?_⟩
  rw [e0]
  refine ⟨⟨by omega, by omega⟩, ?_⟩
  rw [rng_rg]
  refine wpR_of (cmp_of D.int (fun s => pr (q.1 ++ [s], q.2 - s * v)) _ fun s hs => ⟨_, rfl, rfl, ok_of_wpR1 ?_⟩) ?_
  · simp [tI, pr]
    exact ⟨szle (by omega), mulOk_r (by omega) (by omega)⟩
  · have hl : (rg (min m (q.2 / v) + 1)).length ≤ 80 := by rw [N97.rg_len]; omega
    refine ⟨szle (by rw [List.length_map]; omega), ?_⟩
    rw [augExt_at hk (by rw [List.length_map, List.length_map]; omega)]
    rw [N97.step_one, List.map_append, List.map_map] at p
    exact p
/-- a coin's turn -/
def I1 (c t : T) (d2 d3 : D) (v m : Int) (F : List (T × Int)) (η1 : Store) (j : Nat) (ρ : Dn.Env) (η' : Store) : Prop :=
  ∃ x7 x8 x9, ρ = [some (tI c), some (tI t), some d2, some d3, some (.int v), some (.int m), some (.obj η1.length), x7, x8, x9] ∧ η' = η1 ++ [.lst ((stepC v m (F.take j)).map pr)]
theorem chg2_ok {c t : T} {d2 d3 : D} {v m : Int} {x6 x7 x8 x9 : Option D} {F : List (T × Int)} {P : Po} {η η1 : Store} (hv : 1 ≤ v) (hv2 : v ≤ 12) (hm : 0 ≤ m) (hm2 : m ≤ 79) (hF : F.length ≤ 6400) (hq : ∀ q ∈ F, 0 ≤ q.2 ∧ q.1.length ≤ 10) (hd : Fnd η d3 η1 (F.map pr))
    (p : ∀ x7 x8 x9, P.nx [some (tI c), some (tI t), some d2, some (.obj η1.length), some (.int v), some (.int m), some (.obj η1.length), x7, x8, x9] (η1 ++ [.lst ((stepC v m F).map pr)])) :
    Dn.wpS (b_changes_2 [some (tI c), some (tI t), some d2, some d3, some (.int v), some (.int m), x6, x7, x8, x9] η1) P := by
  unfold b_changes_2
  rw [w_seq, w_asg]
  simp [-w_seq]
  rw [w_seq]
  refine w_forLst (I1 c t d2 d3 v m F η1) (d := d3) (xs := F.map pr) ?_ rfl ⟨_, _, _, rfl, rfl⟩ (by rw [List.length_map]; omega) ?_ ?_
  · rcases hd with rfl | ⟨k, rfl, _, hk⟩
    · exact .inl rfl
    · refine .inr ⟨k, rfl, ?_⟩
      rintro j ρ η' ⟨_, _, _, rfl, rfl⟩
      rw [List.getElem?_append_left (List.getElem?_eq_some_iff.mp hk).1]
      exact hk
  · rintro j x hx ρ η' ⟨a7, a8, a9, rfl, rfl⟩
    rw [List.getElem?_map] at hx
    cases ej : F[j]? with
    | none => rw [ej] at hx; cases hx
    | some q =>
      rw [ej] at hx
      cases hx
      have hqm := hq q (List.mem_of_getElem? ej)
      have hlen := N97.step_len (v := v) (m := m) (N := 80) (by omega) (F.take j)
      have h2 : (F.take j).length ≤ 6400 := by rw [List.length_take]; omega
      show Dn.wpS (b_changes_1 [some (tI c), some (tI t), some d2, some d3, some (.int v), some (.int m), some (.obj η1.length), some (tI q.1), some (.int q.2), a9] _) _
      refine chg1_ok (F := stepC v m (F.take j)) hv hv2 hm hm2 hqm.1 hqm.2 getapp (by omega) ?_
      refine ⟨_, _, _, rfl, ?_⟩
      rw [appset, take_succ_at ej, N97.step_app]
  · rintro ρ η' ⟨a7, a8, a9, rfl, rfl⟩
    rw [List.length_map, List.take_length]
    simp
    exact p _ _ _
/-- the program's changes -/
def I2 (η : Store) (c t : T) (a : Int) (j : Nat) (ρ : Dn.Env) (η' : Store) : Prop :=
  ∃ d x4 x5 x6 x7 x8 x9 l, ρ = [some (tI c), some (tI t), some (.int a), some d, x4, x5, x6, x7, x8, x9] ∧ η' = η ++ l ∧ Fnd η d η' ((runC ((c.zip t).take j) [([], a)]).map pr)
theorem run_app {z : List (Int × Int)} {p : Int × Int} : ∀ (f : List (T × Int)), runC (z ++ [p]) f = stepC p.1 p.2 (runC z f) := by
  induction z with
  | nil => intro f; rfl
  | cons q z ih => intro f; show runC (z ++ [p]) (stepC q.1 q.2 f) = _; rw [ih]; rfl
theorem run_mem {z : List (Int × Int)} {n : Nat} : ∀ {f : List (T × Int)}, (∀ p ∈ z, 0 < p.1) → (∀ q ∈ f, 0 ≤ q.2 ∧ q.1.length ≤ n) → ∀ q ∈ runC z f, 0 ≤ q.2 ∧ q.1.length ≤ n + z.length := by
  induction z generalizing n with
  | nil => intro f _ h q hq; simpa using h q hq
  | cons p z ih =>
    intro f hz h q hq
    have := ih (n := n + 1) (f := stepC p.1 p.2 f) (fun r hr => hz r (List.mem_cons_of_mem _ hr)) (fun y hy => ⟨N97.step_nonneg (hz p List.mem_cons_self) (fun y hy => (h y hy).1) y hy, by
      unfold stepC at hy
      obtain ⟨x, hx, h2⟩ := List.mem_flatMap.mp hy
      obtain ⟨s, _, rfl⟩ := List.mem_map.mp h2
      have := (h x hx).2
      simp; omega⟩) q hq
    rw [List.length_cons]
    exact ⟨this.1, by omega⟩
theorem changes_ok {c t : T} {a : Int} (hc : ∀ x ∈ c, 1 ≤ x ∧ x ≤ 12) (hl : c.length ≤ 3) (ht : ∀ x ∈ t, 0 ≤ x ∧ x ≤ 79) (ha : 0 ≤ a) : F_changes [tI c, tI t, .int a] η = .ok (.lst ((chg c t a).map tI)) η := by
  have hz3 : (c.zip t).length ≤ 3 := by rw [List.length_zip]; omega
  have hzb : ∀ p ∈ c.zip t, p.2 < ((80 : Nat) : Int) := fun p hp => by
    have := ht p.2 (List.of_mem_zip hp).2
    omega
  have hb : ∀ j, j < (c.zip t).length → (runC ((c.zip t).take j) [([], a)]).length ≤ 6400 := fun j hj => by
    have h1 := N97.run_len (N := 80) ((c.zip t).take j) [([], a)] fun p hp => hzb p (List.mem_of_mem_take hp)
    have h2 : ((c.zip t).take j).length ≤ 2 := by rw [List.length_take]; omega
    have h3 : 80 ^ ((c.zip t).take j).length ≤ 80 ^ 2 := Nat.pow_le_pow_right (by decide) h2
    simp only [List.length_singleton, Nat.one_mul] at h1
    omega
  have hb2 : (runC (c.zip t) [([], a)]).length ≤ 1000000 := by
    have h1 := N97.run_len (N := 80) (c.zip t) [([], a)] hzb
    have h3 : 80 ^ (c.zip t).length ≤ 80 ^ 3 := Nat.pow_le_pow_right (by decide) hz3
    simp only [List.length_singleton, Nat.one_mul] at h1
    omega
  unfold F_changes
  refine (fun w : wpR (runF 10 b_changes [tI c, tI t, .int a] η) (fun d η' => d = .lst ((chg c t a).map tI) ∧ ∃ l, η' = η ++ l) (fun _ _ => False) => ?_) ?_
  · obtain ⟨d, η', e, rfl, l, rfl⟩ := ok_of_wpR w
    exact trim_ok e (lows_tI _)
  unfold b_changes
  rw [w_runF]
  simp [-w_seq]
  rw [w_seq]
  simp [-w_seq, w_for]
  rw [w_seq, w_for]
  simp [-w_seq, tI]
  rw [zw_zip]
  refine w_forL (I2 η c t a) _ 0 ⟨_, _, _, _, _, _, _, [], rfl, by simp, .inl rfl⟩ ?_ ?_
  · rintro j x hx ρ η' ⟨d, x4, x5, x6, x7, x8, x9, l, rfl, rfl, hf⟩
    rw [List.getElem?_map] at hx
    cases ej : (c.zip t)[j]? with
    | none => rw [ej] at hx; cases hx
    | some p =>
      rw [ej] at hx
      cases hx
      have hm := List.mem_of_getElem? ej
      have h1 := hc _ (List.of_mem_zip hm).1
      have h2 := ht _ (List.of_mem_zip hm).2
      have hj : j < (c.zip t).length := (List.getElem?_eq_some_iff.mp ej).1
      rw [Nat.zero_add] at hf ⊢
      show Dn.wpS (b_changes_2 [some (tI c), some (tI t), some (.int a), some d, some (.int p.1), some (.int p.2), x6, x7, x8, x9] _) _
      refine chg2_ok (η := η) (F := runC ((c.zip t).take j) [([], a)]) h1.1 h1.2 h2.1 h2.2 (hb j hj) (fun q hq => ?_) hf ?_
      · have := run_mem (n := 0) (fun r hr => by
          have := hc _ (List.of_mem_zip (List.mem_of_mem_take hr)).1
          omega) (by simpa using ha) q hq
        rw [List.length_take] at this
        have h3 : (c.zip t).length ≤ 3 := by rw [List.length_zip]; omega
        exact ⟨this.1, by omega⟩
      · intro y7 y8 y9
        refine ⟨_, _, _, _, _, _, _, l ++ [.lst ((stepC p.1 p.2 (runC ((c.zip t).take j) [([], a)])).map pr)], rfl, by simp, .inr ⟨_, rfl, by simp, ?_⟩⟩
        rw [take_succ_at ej, run_app]
        exact getapp
  · rintro ρ η' ⟨d, x4, x5, x6, x7, x8, x9, l, rfl, rfl, hf⟩
    rw [Nat.zero_add, List.length_map, List.take_length] at hf
    dsimp only
    refine w_lcLst (d := d) (f := pr) (g := fun q => tI q.1) (p := fun q => decide (q.2 = 0)) (l := runC (c.zip t) [([], a)]) ?_ rfl hb2 (fun q hq => ⟨_, rfl, ?_, fun _ => ?_⟩) ?_
    · rcases hf with rfl | ⟨k, rfl, _, hk⟩
      · exact .inl rfl
      · exact .inr ⟨k, rfl, hk⟩
    · refine ok_of_wpR1 ?_
      simp [wipeD]
    · rfl
    · refine ⟨?_, l, rfl⟩
      unfold chg
      rw [List.map_map]; rfl
end K96
namespace K96
open PySem PySem.Spec PyProof.Rows L2 Dn
open N97 (T Pay Lay addL subL sumIn chg keys rg has put addAll layF goF layersF Box POk)
variable {η : Store}
/-! ### dicts whose keys are lists of whole numbers -/
def kI (t : T) : List Key := t.map Sum.inl
theorem kI_inj {a b : T} : kI a = kI b ↔ a = b := by
  constructor
  · intro h
    induction a generalizing b with
    | nil => cases b with
      | nil => rfl
      | cons y b => cases h
    | cons x a ih =>
      cases b with
      | nil => cases h
      | cons y b =>
        have h' : Sum.inl x :: kI a = Sum.inl y :: kI b := h
        obtain ⟨h1, h2⟩ := List.cons.inj h'
        rw [Sum.inl.inj h1, ih h2]
  · rintro rfl; rfl
theorem dK_kI (t : T) : D.tup ((kI t).map dK) = tI t := by
  unfold kI tI
  rw [List.map_map]; rfl
theorem keysD_tI (t : T) : keysD (tI t) = some (kI t) := by
  rw [← dK_kI]; exact keysL_map _
def encV : Option (T × T) → D
  | none => .non
  | some x => .tup [tI x.1, tI x.2]
def encL (l : Lay) : List (List Key × D) := l.map fun q => (kI q.1, encV q.2)
theorem encL_len (l : Lay) : (encL l).length = l.length := List.length_map _
theorem any_enc (l : Lay) (k : T) : ((encL l).any fun kv => decide (kv.1 = kI k)) = has l k := by
  unfold encL has
  rw [List.any_map]
  congr 1
  funext q
  show decide (kI q.1 = kI k) = decide (q.1 = k)
  exact decide_eq_decide.mpr kI_inj
theorem get_enc (l : Lay) (k : T) : (getD (encL l) (kI k)).isSome = has l k := by
  unfold getD
  rw [Option.isSome_map, ← any_enc]
  induction encL l with
  | nil => rfl
  | cons q r ih =>
    rw [List.find?_cons, List.any_cons]
    cases decide (q.1 = kI k) with
    | true => rfl
    | false => simpa using ih
theorem putD_enc {l : Lay} {k : T} {v : T × T} (h : has l k = false) : putD (encL l) (kI k) (.tup [tI v.1, tI v.2]) = encL (put l k v) := by
  unfold putD put
  rw [any_enc, h]
  simp [encL, encV]
theorem notIn_at {r : Nat} {l : Lay} {k : T} (h : η[r]? = some (.dT (encL l))) : notInX (tI k) (.obj r) η = some (.bl (!has l k), η) := by
  unfold notInX dget
  dsimp only
  rw [h]
  dsimp only
  rw [keysD_tI]
  dsimp only
  rw [get_enc]
theorem set_at {r : Nat} {l : Lay} {k : T} {v : T × T} (h : η[r]? = some (.dT (encL l))) (hn : has l k = false) (hl : l.length < 1000000) : setX (.obj r) (tI k) (.tup [tI v.1, tI v.2]) η = some (η.set r (.dT (encL (put l k v)))) := by
  unfold setX setT
  dsimp only
  rw [h]
  dsimp only
  rw [keysD_tI]
  dsimp only
  rw [if_pos (by rw [encL_len]; exact Nat.lt_of_lt_of_le hl (by decide)), putD_enc hn]
theorem len_at {r : Nat} {l : Lay} (h : η[r]? = some (.dT (encL l))) : lenX [.obj r] η = some (.int l.length, η) := by
  unfold lenX
  dsimp only
  rw [h]
  dsimp only
  rw [encL_len]
theorem set_same {r : Nat} {o : O} (h : η[r]? = some o) : η.set r o = η := by
  have hl : r < η.length := (List.getElem?_eq_some_iff.mp h).1
  refine List.ext_getElem? fun j => ?_
  by_cases hj : j = r
  · subst hj; rw [h]; simp [hl]
  · rw [List.getElem?_set_ne (Ne.symm hj)]
theorem last_at {k3 rl : Nat} {refs : List Nat} {ρ : Dn.Env} {i : Nat} (hi : ρ[i]? = some (some (.obj k3))) (h : η[k3]? = some (.lst (refs.map D.obj))) (hl : refs.getLast? = some rl) : e2 ixX (gv i) (e1 negD (cst (.int 1))) ρ η = .ok (.obj rl) η := by
  refine ok_of_wpR1 ?_
  have hne : refs ≠ [] := fun e => by rw [e] at hl; cases hl
  have e1 : ixX (.obj k3) (.int (-1)) η = some (.obj rl, η) := by
    have e0 : dget (.obj k3) (.int (-1)) η = none := by
      unfold dget
      dsimp only
      rw [h]
    unfold ixX
    rw [e0]
    show ixD (.obj k3) (.int (-1)) η = _
    rw [ixD_obj h, atI_last (by simpa using hne), List.getLast_map]
    rw [List.getLast?_eq_some_getLast hne] at hl
    rw [Option.some.inj hl]; rfl
  simp [hi, e1]
/-! ### one change -/
abbrev Lρ (c t : T) (ps : List Pay) (k3 : Nat) (p : Pay) (r : Nat) (x7 x8 x9 x10 : Option D) : Dn.Env := [some (tI c), some (tI t), some (psD ps), some (.obj k3), some (.int p.1), some (tI p.2), some (.obj r), x7, x8, x9, x10]
theorem lay1_ok {c t : T} {ps : List Pay} {k3 r : Nat} {p : Pay} {now full ch : T} {x10 : Option D} {l : Lay} {P : Po} (h : η[r]? = some (.dT (encL l))) (hl : (put l (subL full ch) (now, ch)).length ≤ 3000) (hf : full.length ≤ 1000)
    (q : ∀ x10, P.nx (Lρ c t ps k3 p r (some (tI now)) (some (tI full)) (some (tI ch)) x10) (η.set r (.dT (encL (put l (subL full ch) (now, ch)))))) :
    Dn.wpS (b_layers_in_1 (Lρ c t ps k3 p r (some (tI now)) (some (tI full)) (some (tI ch)) x10) η) P := by
  have hr : r < η.length := (List.getElem?_eq_some_iff.mp h).1
  have hll : l.length ≤ 3000 := by
    unfold put at hl
    split at hl
    · exact hl
    · simp at hl; omega
  unfold b_layers_in_1
  rw [w_seq, w_asg, w_eCall]
  simp [-w_seq, Lρ]
  refine wpR_of (without_ok hf) ?_
  rw [w_seq, w_sIf]
  simp [-w_seq]
  rw [notIn_at h]
  simp [-w_seq]
  have e2 : (has l (subL full ch)) = true → put l (subL full ch) (now, ch) = l := fun e => by unfold put; rw [if_pos e]
  by_cases hh : has l (subL full ch) = true
  · simp [hh, -w_seq]
    rw [e2 hh, set_same h] at q
    rw [len_at h]
    simp
    rw [if_neg (by omega)]
    exact q _
  · have hh' : has l (subL full ch) = false := by simpa using hh
    simp [hh', -w_seq]
    rw [set_at (v := (now, ch)) h hh' (by omega)]
    simp [-w_seq]
    rw [len_at (getset hr)]
    simp
    rw [if_neg (by omega)]
    exact q _
/-! ### one till -/
def J1 (c t : T) (ps : List Pay) (k3 r : Nat) (p : Pay) (now full : T) (cs : List T) (l : Lay) (η : Store) (j : Nat) (ρ : Dn.Env) (η' : Store) : Prop :=
  ∃ x9 x10, ρ = Lρ c t ps k3 p r (some (tI now)) (some (tI full)) x9 x10 ∧ η' = η.set r (.dT (encL (addAll now full (cs.take j) l)))
theorem addAll_app {now full : T} {x : T} : ∀ {cs : List T} {l : Lay}, addAll now full (cs ++ [x]) l = put (addAll now full cs l) (subL full x) (now, x)
  | [], l => rfl
  | c :: r, l => by
    show addAll now full (r ++ [x]) _ = _
    rw [addAll_app]; rfl
theorem lay2_ok {c t : T} {ps : List Pay} {k3 r : Nat} {p : Pay} {now : T} {x8 x9 x10 : Option D} {l : Lay} {P : Po} (hc : ∀ x ∈ c, 1 ≤ x ∧ x ≤ 12) (hcl : c.length ≤ 3) (h : η[r]? = some (.dT (encL l)))
    (hn : now.length ≤ 1000) (hf : ∀ x ∈ addL now p.2, 0 ≤ x ∧ x ≤ 79) (ha : p.1 ≤ sumIn c p.2) (hfl : (addL now p.2).length ≤ 1000)
    (hl : ∀ j, (addAll now (addL now p.2) ((chg c (addL now p.2) (sumIn c p.2 - p.1)).take j) l).length ≤ 3000) (hcz : (chg c (addL now p.2) (sumIn c p.2 - p.1)).length ≤ 1000000)
    (q : ∀ x8 x9 x10, P.nx (Lρ c t ps k3 p r (some (tI now)) x8 x9 x10) (η.set r (.dT (encL (addAll now (addL now p.2) (chg c (addL now p.2) (sumIn c p.2 - p.1)) l))))) :
    Dn.wpS (b_layers_in_2 (Lρ c t ps k3 p r (some (tI now)) x8 x9 x10) η) P := by
  have hr : r < η.length := (List.getElem?_eq_some_iff.mp h).1
  unfold b_layers_in_2
  rw [w_seq, w_asg, w_eCall]
  simp [-w_seq, Lρ]
  refine wpR_of (given_ok hn) ?_
  simp [w_for]
  refine wpR_of (sum_ok hc (by omega)) ?_
  simp
  refine wpR_of (changes_ok hc hcl hf (by omega)) ?_
  simp
  refine w_forL (J1 c t ps k3 r p now (addL now p.2) (chg c (addL now p.2) (sumIn c p.2 - p.1)) l η) _ 0 ⟨_, _, rfl, ?_⟩ ?_ ?_
  · exact (set_same h).symm
  · rintro j x hx ρ η' ⟨a9, a10, rfl, rfl⟩
    rw [List.getElem?_map] at hx
    cases ej : (chg c (addL now p.2) (sumIn c p.2 - p.1))[j]? with
    | none => rw [ej] at hx; cases hx
    | some y =>
      rw [ej] at hx
      cases hx
      rw [Nat.zero_add]
      have hj := hl (j + 1)
      rw [take_succ_at ej, addAll_app] at hj
      show Dn.wpS (b_layers_in_1 (Lρ c t ps k3 p r (some (tI now)) (some (tI (addL now p.2))) (some (tI y)) a10) _) _
      refine lay1_ok (getset hr) hj hfl fun z10 => ⟨_, _, rfl, ?_⟩
      rw [setset, take_succ_at ej, addAll_app]
  · rintro ρ η' ⟨a9, a10, rfl, rfl⟩
    rw [Nat.zero_add, List.length_map, List.take_length]
    exact q _ _ _
end K96
namespace K96
open PySem PySem.Spec PyProof.Rows L2 Dn
open N97 (T Pay Lay addL subL sumIn chg keys rg has put addAll layF goF layersF Box POk)
variable {η : Store}
/-- the layers, in the store -/
def LayAt (η : Store) (k : Nat) (acc : List Lay) : Prop := ∃ refs : List Nat, η[k]? = some (.lst (refs.map D.obj)) ∧ refs.length = acc.length ∧ ∀ (i r : Nat) (L : Lay), refs[i]? = some r → acc[i]? = some L → η[r]? = some (.dT (encL L))
theorem keys_enc (l : Lay) : ((encL l).map fun kv => D.tup (kv.1.map dK)) = (keys l).map tI := by
  unfold encL keys
  rw [List.map_map, List.map_map]
  exact List.map_congr_left fun q _ => dK_kI q.1
/-- what holds for a payer's turn -/
structure Tn (c : T) (p : Pay) (M G : Int) (last : Lay) : Prop where
  cr : ∀ x ∈ c, 1 ≤ x ∧ x ≤ 12
  cl : c.length ≤ 3
  p : POk G c p
  bx : ∀ k ∈ keys last, Box M c.length k
  m : 0 ≤ M
  g : 0 ≤ G
  s1 : M + G ≤ 79
  s2 : (M + G + 1).toNat ^ c.length ≤ 3000
def J2 (c t : T) (ps : List Pay) (k3 : Nat) (p : Pay) (last : Lay) (B : Store) (q : Nat) (j : Nat) (ρ : Dn.Env) (η' : Store) : Prop :=
  ∃ x7 x8 x9 x10, ρ = Lρ c t ps k3 p q x7 x8 x9 x10 ∧ η' = B.set q (.dT (encL (layF c p.1 p.2 ((keys last).take j) [])))
theorem walk_ok {c t : T} {ps : List Pay} {k3 q : Nat} {p : Pay} {last : Lay} {M G : Int} (hT : Tn c p M G last) {B : Store} {x7 x8 x9 x10 : Option D} {P : Po} (hB : B[q]? = some (.dT []))
    (h : ∀ x7 x8 x9 x10, P.nx (Lρ c t ps k3 p q x7 x8 x9 x10) (B.set q (.dT (encL (layF c p.1 p.2 (keys last) []))))) :
    Dn.wpS (forL (bN 7) b_layers_in_2 ((keys last).map tI) (Lρ c t ps k3 p q x7 x8 x9 x10) B) P := by
  have hq : q < B.length := (List.getElem?_eq_some_iff.mp hB).1
  have hc0 : ∀ v ∈ c, 0 < v := fun v hv => by have := (hT.cr v hv).1; omega
  refine w_forL (J2 c t ps k3 p last B q) _ 0 ⟨_, _, _, _, rfl, ?_⟩ ?_ ?_
  · exact (set_same hB).symm
  · rintro j x hx ρ η' ⟨a7, a8, a9, a10, rfl, rfl⟩
    rw [List.getElem?_map] at hx
    cases ej : (keys last)[j]? with
    | none => rw [ej] at hx; cases hx
    | some now =>
      rw [ej] at hx
      cases hx
      rw [Nat.zero_add]
      have hm : now ∈ keys last := List.mem_of_getElem? ej
      have hb := hT.bx now hm
      have ba := N97.box_add hb hT.p.1
      have hcl := hT.cl
      have hs1 := hT.s1
      have hr79 : ∀ x ∈ addL now p.2, 0 ≤ x ∧ x ≤ 79 := fun x hx => ⟨(ba.2 x hx).1, by have := (ba.2 x hx).2; omega⟩
      show Dn.wpS (b_layers_in_2 (Lρ c t ps k3 p q (some (tI now)) a8 a9 a10) _) _
      refine lay2_ok (l := layF c p.1 p.2 ((keys last).take j) []) hT.cr hcl (getset hq) (by rw [hb.1]; omega) hr79 hT.p.2.2 (by rw [ba.1]; omega) (fun i => ?_) ?_ fun y8 y9 y10 => ⟨_, _, _, _, rfl, ?_⟩
      · exact Nat.le_trans (N97.part_len hc0 hT.p hT.bx (fun k hk => List.mem_of_mem_take hk) hm fun h hh => List.mem_of_mem_take hh) hT.s2
      · have h1 := N97.chg_len (c := c) (a := sumIn c p.2 - p.1) (N := 80) (t := addL now p.2) fun x hx => by have := (hr79 x hx).2; omega
        have h2 : (c.zip (addL now p.2)).length ≤ 3 := by rw [List.length_zip]; omega
        have h3 : 80 ^ (c.zip (addL now p.2)).length ≤ 80 ^ 3 := Nat.pow_le_pow_right (by decide) h2
        omega
      · rw [setset, take_succ_at ej, N97.layF_app]
  · rintro ρ η' ⟨a7, a8, a9, a10, rfl, rfl⟩
    rw [Nat.zero_add, List.length_map, List.take_length]
    exact h _ _ _ _
theorem app_set {A : Store} {x o : O} {r : Nat} (h : r < A.length) : (A ++ [x]).set r o = A.set r o ++ [x] := by
  rw [List.set_append_left _ _ h]
theorem lay3_ok {c t : T} {ps : List Pay} {k3 : Nat} {p : Pay} {last : Lay} {acc : List Lay} {M G : Int} (hT : Tn c p M G last) {η1 : Store} {x6 x7 x8 x9 x10 : Option D} {P : Po} (hL : LayAt η1 k3 acc) (hacc : acc.getLast? = some last) (hal : acc.length ≤ 1000)
    (h0 : layF c p.1 p.2 (keys last) [] = [] → P.rt (.obj k3) (η1 ++ [.dT [], .dT []]))
    (h1 : layF c p.1 p.2 (keys last) [] ≠ [] → ∀ x7 x8 x9 x10 η', LayAt η' k3 (acc ++ [layF c p.1 p.2 (keys last) []]) → (∃ o l, η' = η1.set k3 o ++ l) → P.nx (Lρ c t ps k3 p η1.length x7 x8 x9 x10) η') :
    Dn.wpS (b_layers_in_3 [some (tI c), some (tI t), some (psD ps), some (.obj k3), some (.int p.1), some (tI p.2), x6, x7, x8, x9, x10] η1) P := by
  obtain ⟨refs, hk, hrl, hat⟩ := hL
  have hk3 : k3 < η1.length := (List.getElem?_eq_some_iff.mp hk).1
  obtain ⟨rl, erl⟩ : ∃ rl, refs.getLast? = some rl := by
    cases e : refs.getLast? with
    | none =>
      have := List.getLast?_eq_none_iff.mp e
      rw [this] at hrl
      have : acc = [] := List.length_eq_zero_iff.mp hrl.symm
      rw [this] at hacc; cases hacc
    | some r => exact ⟨r, rfl⟩
  have hd : η1[rl]? = some (.dT (encL last)) := by
    refine hat (refs.length - 1) rl last ?_ ?_
    · rw [← List.getLast?_eq_getElem?]; exact erl
    · rw [hrl, ← List.getLast?_eq_getElem?]; exact hacc
  have hrll : rl < η1.length := (List.getElem?_eq_some_iff.mp hd).1
  have hne : rl ≠ k3 := fun e => by rw [e, hk] at hd; cases hd
  unfold b_layers_in_3
  rw [w_seq, w_asg, w_mkDT]
  simp only [b_bN, wpO_some]
  rw [w_seq]
  have hk' : (η1 ++ [O.dT []])[k3]? = some (.lst (refs.map D.obj)) := by rw [List.getElem?_append_left hk3]; exact hk
  have hd' : (η1 ++ [O.dT []])[rl]? = some (.dT (encL last)) := by rw [List.getElem?_append_left hrll]; exact hd
  have hB : (η1 ++ [O.dT []]).set rl (.lkT (encL last)) = η1.set rl (.lkT (encL last)) ++ [.dT []] := app_set hrll
  refine w_lockT (last_at rfl hk' erl) hd' ?_
  rw [w_for]
  refine w_iKT (last_at rfl (k3 := k3) (by rw [List.getElem?_set_ne hne]; exact hk') erl) (getset (by simp; omega)) ?_
  dsimp only
  rw [keys_enc, hB]
  have hlen : (η1.set rl (.lkT (encL last))).length = η1.length := by simp
  refine walk_ok (t := t) (ps := ps) (k3 := k3) (q := η1.length) hT (by rw [← hlen]; exact getapp) fun y7 y8 y9 y10 => ?_
  dsimp only
  have hC : ((η1.set rl (O.lkT (encL last)) ++ [O.dT []]).set η1.length (.dT (encL (layF c p.1 p.2 (keys last) [])))).set rl (.dT (encL last)) = η1 ++ [O.dT (encL (layF c p.1 p.2 (keys last) []))] := by
    have e1 : (η1.set rl (O.lkT (encL last)) ++ [O.dT []]).set η1.length (.dT (encL (layF c p.1 p.2 (keys last) []))) = η1.set rl (O.lkT (encL last)) ++ [O.dT (encL (layF c p.1 p.2 (keys last) []))] := by
      rw [← hlen]; exact appset
    rw [e1, app_set (by rw [hlen]; exact hrll), setset, set_same hd]
  rw [hC]
  generalize hlay : layF c p.1 p.2 (keys last) [] = lay at *
  rw [w_seq, w_sIf]
  simp only [w_tst, w_e2, w_gv, Lρ, List.getElem?_cons_zero, List.getElem?_cons_succ, wpO_some, w_mkDT]
  have eq : Dn.eqT (.obj η1.length) (.obj (η1 ++ [O.dT (encL lay)]).length) (η1 ++ [.dT (encL lay)] ++ [.dT []]) = some (.bl (encL lay).isEmpty, η1 ++ [.dT (encL lay)] ++ [.dT []]) := by
    have g1 : (η1 ++ [O.dT (encL lay)] ++ [.dT []])[η1.length]? = some (.dT (encL lay)) := by simp
    have g2 : (η1 ++ [O.dT (encL lay)] ++ [.dT []])[(η1 ++ [O.dT (encL lay)]).length]? = some (.dT []) := getapp
    unfold Dn.eqT
    dsimp only
    rw [g1, g2]
    exact if_pos rfl
  rw [eq, wpO_some, isB_bl, wpO_some]
  by_cases hl : lay = []
  · subst hl
    simp [encL]
    exact h0 rfl
  · have he : (encL lay).isEmpty = false := by
      cases lay with
      | nil => exact absurd rfl hl
      | cons a b => rfl
    rw [he]
    have hk2 : (η1 ++ [O.dT (encL lay)] ++ [.dT []])[k3]? = some (.lst (refs.map D.obj)) := by
      rw [List.append_assoc, List.getElem?_append_left hk3]; exact hk
    simp only [Bool.false_eq_true, if_false, w_nil, w_exp, w_eMt, w_gv, List.getElem?_cons_zero, List.getElem?_cons_succ, wpO_some, w_aCons, w_aNil]
    refine ⟨tyM_obj hk2, ?_⟩
    rw [appD_obj hk2 (by rw [List.length_map, hrl]; exact Nat.lt_of_le_of_lt hal (by decide))]
    rw [wpO_some]
    refine h1 hl _ _ _ _ _ ⟨refs ++ [η1.length], ?_, by simp [hrl], fun i r L hi hL => ?_⟩ ⟨.lst (refs.map D.obj ++ [.obj η1.length]), [.dT (encL lay), .dT []], by
      rw [List.append_assoc, List.set_append_left _ _ hk3]; rfl⟩
    · rw [getset (by simp; omega)]
      simp
    · have hr2 : (η1 ++ [O.dT (encL lay)] ++ [.dT []])[r]? = some (.dT (encL L)) := by
        by_cases hi2 : i < refs.length
        · rw [List.getElem?_append_left hi2] at hi
          rw [List.getElem?_append_left (by rw [← hrl]; exact hi2)] at hL
          have := hat i r L hi hL
          rw [List.append_assoc, List.getElem?_append_left (List.getElem?_eq_some_iff.mp this).1]
          exact this
        · have hi3 : i = refs.length := by
            have := (List.getElem?_eq_some_iff.mp hi).1
            simp at this
            omega
          subst hi3
          simp at hi
          rw [hrl] at hL
          simp at hL
          subst hi hL
          simp
      have hrk : k3 ≠ r := fun e => by rw [← e, hk2] at hr2; cases hr2
      rw [List.getElem?_set_ne hrk]
      exact hr2
end K96
namespace K96
open PySem PySem.Spec PyProof.Rows L2 Dn
open N97 (T Pay Lay addL subL sumIn chg keys rg has put addAll layF goF layersF Box POk)
variable {η : Store}
structure Qk (c t : T) (ps : List Pay) (M G : Int) : Prop where
  cr : ∀ x ∈ c, 1 ≤ x ∧ x ≤ 12
  cl : c.length ≤ 3
  t : Box M c.length t
  pk : ∀ p ∈ ps, POk G c p
  m : 0 ≤ M
  g : 0 ≤ G
  s1 : M + G * (ps.length : Int) ≤ 79
  s2 : (M + G * (ps.length : Int) + 1).toNat ^ c.length ≤ 3000
  pl : ps.length ≤ 8
theorem Qk.turn {c t : T} {ps : List Pay} {M G : Int} (h : Qk c t ps M G) {j : Nat} {p : Pay} (hj : ps[j]? = some p) {last : Lay} (hb : ∀ k ∈ keys last, Box (M + G * (j : Int)) c.length k) : Tn c p (M + G * (j : Int)) G last := by
  have hjl : j < ps.length := (List.getElem?_eq_some_iff.mp hj).1
  have e : M + G * (j : Int) + G = M + G * ((j + 1 : Nat) : Int) := by
    rw [Int.natCast_add, Int.mul_add]; omega
  have h1 : G * ((j + 1 : Nat) : Int) ≤ G * (ps.length : Int) := Int.mul_le_mul_of_nonneg_left (by omega) h.g
  have h2 : 0 ≤ G * (j : Int) := Int.mul_nonneg h.g (by omega)
  have hm := h.m
  refine ⟨h.cr, h.cl, h.pk p (List.mem_of_getElem? hj), hb, by omega, h.g, ?_, ?_⟩
  · rw [e]; have := h.s1; omega
  · rw [e]
    refine Nat.le_trans (Nat.pow_le_pow_left ?_ _) h.s2
    omega
def J3 (c t : T) (ps : List Pay) (M G : Int) (η : Store) (j : Nat) (ρ : Dn.Env) (η' : Store) : Prop :=
  ∃ x4 x5 x6 x7 x8 x9 x10 acc last l, ρ = [some (tI c), some (tI t), some (psD ps), some (.obj (η.length + 1)), x4, x5, x6, x7, x8, x9, x10] ∧ η' = η ++ l ∧ LayAt η' (η.length + 1) acc ∧ acc.getLast? = some last ∧ acc.length = j + 1 ∧
    (∀ k ∈ keys last, Box (M + G * (j : Int)) c.length k) ∧ goF c (ps.drop j) last acc = layersF c t ps
theorem layers_ok {c t : T} {ps : List Pay} {M G : Int} (h : Qk c t ps M G) : ∃ l, F_layers_in [tI c, tI t, psD ps] η = .ok (.obj (η.length + 1)) (η ++ l) ∧ LayAt (η ++ l) (η.length + 1) (layersF c t ps) := by
  refine (fun w : wpR (F_layers_in [tI c, tI t, psD ps] η) (fun d η' => d = .obj (η.length + 1) ∧ ∃ l, η' = η ++ l ∧ LayAt (η ++ l) (η.length + 1) (layersF c t ps)) (fun _ _ => False) => ?_) ?_
  · obtain ⟨d, η', e, rfl, l, rfl, hl⟩ := ok_of_wpR w
    exact ⟨l, e, hl⟩
  unfold F_layers_in b_layers_in
  rw [w_runF]
  rw [w_seq, w_asg]
  have hpl := h.pl
  simp only [List.map_cons, List.map_nil, List.cons_append, List.nil_append, w_mkO, w_aCons, w_aNil, w_mkDT1, w_gv, w_cst, List.length_cons, List.length_nil, Nat.reduceAdd, Nat.reduceSub, List.replicate_succ, List.replicate_zero, List.cons_append, List.nil_append, List.getElem?_cons_zero, List.getElem?_cons_succ, wpO_some, keysD_tI, b_bN, List.set_cons_succ, List.set_cons_zero]
  refine ⟨szle (by simp), ?_⟩
  rw [w_seq, w_for, w_iVal, w_gv]
  simp only [List.getElem?_cons_zero, List.getElem?_cons_succ, wpO_some]
  have es : ∀ η : Store, srcOf (psD ps) η = some (.val (ps.map pD)) := fun _ => rfl
  rw [es, wpO_some]
  dsimp only
  have e0 : (η ++ [O.dT [(kI t, .non)]]).length = η.length + 1 := by simp
  refine w_forL (J3 c t ps M G η) _ 0 ⟨none, none, none, none, none, none, none, [[(t, none)]], [(t, none)], [.dT [(kI t, .non)], .lst [.obj η.length]], ?_, by simp, ⟨[η.length], ?_, rfl, fun i r L hi hL => ?_⟩, rfl, rfl, ?_, rfl⟩ ?_ ?_
  · rw [e0]
  · simp
  · have hi0 : i = 0 := by
      have := (List.getElem?_eq_some_iff.mp hi).1
      simp at this; exact this
    subst hi0
    simp at hi hL
    subst hi hL
    simp [encL, encV]
  · intro k hk
    simp [keys] at hk
    subst hk
    have := h.t
    simpa using this
  · rintro j x hx ρ η' ⟨x4, x5, x6, x7, x8, x9, x10, acc, last, l, rfl, rfl, hL, hlast, hal, hbx, hgo⟩
    rw [List.getElem?_map] at hx
    cases ej : ps[j]? with
    | none => rw [ej] at hx; cases hx
    | some p =>
      rw [ej] at hx
      cases hx
      rw [Nat.zero_add] at hbx hgo hal ⊢
      have hjl : j < ps.length := (List.getElem?_eq_some_iff.mp ej).1
      have hT := h.turn ej hbx
      have hdr : ps.drop j = p :: ps.drop (j + 1) := by
        rw [List.drop_eq_getElem_cons hjl]
        have := (List.getElem?_eq_some_iff.mp ej).2
        rw [this]
      rw [hdr] at hgo
      unfold goF at hgo
      show Dn.wpS (b_layers_in_3 [some (tI c), some (tI t), some (psD ps), some (.obj (η.length + 1)), some (.int p.1), some (tI p.2), x6, x7, x8, x9, x10] _) _
      refine lay3_ok hT hL hlast (by omega) (fun h0 => ?_) fun h1 y7 y8 y9 y10 η2 hL2 ⟨o, l2, e2⟩ => ?_
      · rw [if_pos h0] at hgo
        rw [hgo] at hL
        refine ⟨rfl, l ++ [.dT [], .dT []], by simp, ?_⟩
        obtain ⟨refs, a1, a2, a3⟩ := hL
        have hk3 := (List.getElem?_eq_some_iff.mp a1).1
        rw [← List.append_assoc]
        refine ⟨refs, by rw [List.getElem?_append_left hk3]; exact a1, a2, fun i r L hi hL => ?_⟩
        have := a3 i r L hi hL
        rw [List.getElem?_append_left (List.getElem?_eq_some_iff.mp this).1]
        exact this
      · rw [if_neg h1] at hgo
        have hk3 : η.length + 1 < (η ++ l).length := by
          obtain ⟨refs, a1, _⟩ := hL
          exact (List.getElem?_eq_some_iff.mp a1).1
        have e3 : (η ++ l).set (η.length + 1) o = η ++ l.set 1 o := by
          rw [List.set_append_right _ _ (by omega)]
          congr 2
          omega
        refine ⟨_, _, _, _, _, _, _, acc ++ [layF c p.1 p.2 (keys last) []], layF c p.1 p.2 (keys last) [], l.set 1 o ++ l2, rfl, by rw [e2, e3, List.append_assoc], hL2, by simp, by simp [hal], ?_, hgo⟩
        have hc0 : ∀ v ∈ c, 0 < v := fun v hv => by have := (h.cr v hv).1; omega
        have e4 : M + G * ((j + 1 : Nat) : Int) = M + G * (j : Int) + G := by
          rw [Int.natCast_add, Int.mul_add]; omega
        rw [e4]
        exact N97.lay_box hc0 hT.p hbx
  · rintro ρ η' ⟨x4, x5, x6, x7, x8, x9, x10, acc, last, l, rfl, rfl, hL, hlast, hal, hbx, hgo⟩
    rw [Nat.zero_add, List.length_map, List.drop_length] at hgo
    have hgo' : acc = layersF c t ps := hgo
    rw [hgo'] at hL
    dsimp only
    rw [w_ret, w_gv]
    exact ⟨rfl, l, rfl, hL⟩
end K96
namespace K96
open PySem PySem.Spec PyProof.Rows L2 Dn
open N97 (T Pay Lay addL subL sumIn chg keys rg has put addAll layF goF layersF Box POk ordsN ordStep inOrd)
variable {η : Store}
theorem LayAt.len {η : Store} {k : Nat} {acc : List Lay} (h : LayAt η k acc) : lenD [.obj k] η = some (.int acc.length, η) := by
  obtain ⟨refs, h1, h2, _⟩ := h
  rw [lenD_obj h1, List.length_map, h2]
theorem served_ok {c t : T} {ps : List Pay} {M G : Int} (hq : QOk c t ps) (h : Qk c t ps M G) : F_served_many [tI c, tI t, psD ps] η = .ok (.int ((layersF c t ps).length - 1)) η := by
  unfold F_served_many
  refine (fun w : wpR (runF 3 b_served_many [tI c, tI t, psD ps] η) (fun d η' => d = .int ((layersF c t ps).length - 1) ∧ ∃ l, η' = η ++ l) (fun _ _ => False) => ?_) ?_
  · obtain ⟨d, η', e, rfl, l, rfl⟩ := ok_of_wpR w
    exact trim_ok e rfl
  unfold b_served_many
  rw [w_runF]
  simp
  refine wpR_of (needq_ok hq) ?_
  obtain ⟨l, e, hL⟩ := layers_ok (η := η) h
  refine wpR_of e ?_
  rw [hL.len]
  simp
end K96
namespace K96
open PySem PySem.Spec PyProof.Rows L2 Dn
open N97 (T Pay Lay addL subL sumIn chg keys rg has put addAll layF goF layersF Box POk ordsN ordStep inOrd)
variable {η : Store}
/-! ### tuples of whole numbers as data -/
def pI (t : T) : PyData := .tuple (t.map .int)
theorem pd0_tI (t : T) : pd0 (tI t) = some (pI t) := by
  show (pds0 (t.map D.int)).map PyData.tuple = _
  rw [pds0_ints]; rfl
theorem pds0_tI : ∀ l : List T, pds0 (l.map tI) = some (l.map pI)
  | [] => rfl
  | t :: l => by
    rw [List.map_cons]
    unfold pds0
    rw [pd0_tI, pds0_tI l]; rfl
theorem dep_tI : ∀ l : List T, PyData.depthAll (l.map pI) ≤ 1
  | [] => by simp [PyData.depthAll]
  | t :: l => by
    have ih := dep_tI l
    rw [List.map_cons]
    simp only [PyData.depthAll, pI, PyData.depth, PySem.W.depth_ints]
    omega
theorem ord_tI (l : List T) : ordAll (l.map pI) = true := by
  unfold ordAll
  have h1 : ((l.map pI).all fun p => (l.map pI).all fun q => PySem.W.alike p q) = true := by
    refine List.all_eq_true.mpr fun p hp => List.all_eq_true.mpr fun q hq => ?_
    obtain ⟨a, _, rfl⟩ := List.mem_map.mp hp
    obtain ⟨b, _, rfl⟩ := List.mem_map.mp hq
    simp [pI, PySem.W.alike, PySem.W.alike_ints]
  have h2 : ((l.map pI).all fun p => !nonP p) = true := by
    refine List.all_eq_true.mpr fun p hp => ?_
    obtain ⟨a, _, rfl⟩ := List.mem_map.mp hp
    rfl
  have h3 : decide (PyData.depthAll (l.map pI) ≤ 60) = true := decide_eq_true (Nat.le_trans (dep_tI l) (by decide))
  rw [h1, h2, h3]; rfl
theorem keysT_enc (l : Lay) : keysT (encL l) = (keys l).map tI := keys_enc l
/-! ### the plan -/
def look (l : Lay) (k : T) : Option (T × T) := (l.find? fun q => decide (q.1 = k)).bind (·.2)
def planGo : List Lay → T → List T → Option (List T)
  | [], _, found => some found
  | L :: r, till, found => (look L till).bind fun q => planGo r q.1 (q.2 :: found)
theorem find_enc (l : Lay) (k : T) : getD (encL l) (kI k) = (l.find? fun q => decide (q.1 = k)).map fun q => encV q.2 := by
  unfold getD encL
  induction l with
  | nil => rfl
  | cons q l ih =>
    rw [List.map_cons, List.find?_cons, List.find?_cons]
    have e : decide (kI q.1 = kI k) = decide (q.1 = k) := decide_eq_decide.mpr kI_inj
    dsimp only
    rw [e]
    cases decide (q.1 = k) with
    | true => rfl
    | false => exact ih
theorem look_at {r : Nat} {l : Lay} {k : T} {q : T × T} (h : η[r]? = some (.dT (encL l))) (hq : look l k = some q) : ixX (.obj r) (tI k) η = some (.tup [tI q.1, tI q.2], η) := by
  have e : dget (.obj r) (tI k) η = some (some (.tup [tI q.1, tI q.2])) := by
    unfold dget
    dsimp only
    rw [h]
    dsimp only
    rw [keysD_tI]
    dsimp only
    rw [find_enc]
    unfold look at hq
    cases ef : l.find? fun q => decide (q.1 = k) with
    | none => rw [ef] at hq; cases hq
    | some y =>
      rw [ef] at hq
      have hq' : y.2 = some q := hq
      show some (some (encV y.2)) = _
      rw [hq']; rfl
  unfold ixX
  rw [e]
def PL (k : Nat) (acc : List Lay) (pl : List T) (η : Store) (j : Nat) (ρ : Dn.Env) (η' : Store) : Prop :=
  ∃ till found x3 x4, ρ = [some (.obj k), some (.tup (found.map tI)), some (tI till), x3, x4] ∧ η' = η ∧ found.length = j ∧ planGo ((acc.tail.reverse).drop j) till found = some pl
theorem plan_ok {k : Nat} {acc : List Lay} {last : Lay} {k0 m : T} {ks pl : List T} (hL : LayAt η k acc) (hlast : acc.getLast? = some last) (hks : keys last = k0 :: ks) (hm : minBy (tI k0) (ks.map tI) = tI m) (hp : planGo acc.tail.reverse m [] = some pl) (hal : acc.length ≤ 1000) :
    F_plan_in [.obj k] η = .ok (.tup (pl.map tI)) η := by
  refine ok_of_wpR1 ?_
  obtain ⟨refs, h1, h2, h3⟩ := hL
  obtain ⟨rl, erl⟩ : ∃ rl, refs.getLast? = some rl := by
    cases e : refs.getLast? with
    | none =>
      have := List.getLast?_eq_none_iff.mp e
      rw [this] at h2
      have : acc = [] := List.length_eq_zero_iff.mp h2.symm
      rw [this] at hlast; cases hlast
    | some r => exact ⟨r, rfl⟩
  have hd : η[rl]? = some (.dT (encL last)) := by
    refine h3 (refs.length - 1) rl last ?_ ?_
    · rw [← List.getLast?_eq_getElem?]; exact erl
    · rw [h2, ← List.getLast?_eq_getElem?]; exact hlast
  unfold F_plan_in b_plan_in
  rw [w_runF]
  rw [w_seq, w_par, w_mkT, w_aNil]
  refine ⟨szle (Nat.zero_le _), ?_⟩
  rw [w_eL, w_aCons]
  refine wpR_of (last_at rfl h1 erl) ?_
  rw [w_aNil]
  have em : minT [.obj rl] η = some (tI m, η) := by
    unfold minT
    dsimp only
    rw [hd]
    dsimp only
    rw [keysT_enc, hks, List.map_cons]
    dsimp only
    have ep : pds0 (tI k0 :: ks.map tI) = some ((k0 :: ks).map pI) := pds0_tI (k0 :: ks)
    rw [ep]
    dsimp only
    rw [if_pos (ord_tI _), hm]
  rw [em, wpO_some]
  dsimp only
  rw [w_seq, w_for, w_iVal, w_e1, w_gv]
  have er : revT (.obj k) η = some (.lst ((refs.map D.obj).tail.reverse), η) := by
    unfold revT
    have : seqL (.obj k) η = some (refs.map D.obj) := by unfold seqL; dsimp only; rw [h1]
    rw [this]
  simp [er, -w_seq]
  rw [← List.map_tail, ← List.map_reverse]
  refine w_forL (PL k acc pl η) _ 0 ⟨m, [], none, none, rfl, rfl, rfl, by rw [List.drop_zero]; exact hp⟩ ?_ ?_
  · rintro j x hx ρ η' ⟨till, found, x3, x4, rfl, rfl, hf, hg⟩
    rw [Nat.zero_add] at hg hf ⊢
    rw [List.getElem?_map] at hx
    cases ej : refs.tail.reverse[j]? with
    | none => rw [ej] at hx; cases hx
    | some r =>
      rw [ej] at hx
      cases hx
      have hj : j < refs.tail.reverse.length := (List.getElem?_eq_some_iff.mp ej).1
      have hj2 : j < acc.tail.reverse.length := by
        rw [List.length_reverse, List.length_tail] at hj ⊢
        omega
      have hr : η'[r]? = some (.dT (encL acc.tail.reverse[j])) := by
        rw [List.length_reverse, List.length_tail] at hj hj2
        rw [List.getElem?_reverse (by rw [List.length_tail]; omega), List.length_tail] at ej
        have e2 : acc.tail.reverse[j]? = acc.tail[acc.length - 1 - 1 - j]? := by
          rw [List.getElem?_reverse (by rw [List.length_tail]; omega), List.length_tail]
        have e3 : acc.tail.reverse[j]? = some acc.tail.reverse[j] := List.getElem?_eq_getElem _
        rw [e2] at e3
        rw [List.getElem?_tail] at ej e3
        rw [h2] at ej
        exact h3 _ r _ ej e3
      rw [List.drop_eq_getElem_cons hj2] at hg
      unfold planGo at hg
      cases el : look acc.tail.reverse[j] till with
      | none => rw [el] at hg; cases hg
      | some q =>
        rw [el] at hg
        have hg' : planGo (acc.tail.reverse.drop (j + 1)) q.1 (q.2 :: found) = some pl := hg
        unfold b_plan_in_1
        simp
        rw [look_at hr el]
        simp
        have hjl : j < 1000 := by rw [List.length_reverse, List.length_tail] at hj; omega
        exact ⟨szle (by omega), q.1, q.2 :: found, _, _, rfl, rfl, by simp [hf], hg'⟩
  · rintro ρ η' ⟨till, found, x3, x4, rfl, rfl, hf, hg⟩
    rw [Nat.zero_add, List.length_map, List.length_reverse, List.length_tail] at hg
    have e0 : acc.tail.reverse.drop (refs.length - 1) = [] := by
      refine List.drop_eq_nil_of_le ?_
      rw [List.length_reverse, List.length_tail, h2]
      exact Nat.le_refl _
    rw [e0] at hg
    have hg' : some found = some pl := hg
    cases hg'
    exact ⟨rfl, rfl⟩
/-- change_plan -/
def planR (c t : T) (ps : List Pay) (pl : List T) : D := if ps.length < (layersF c t ps).length then .tup (pl.map tI) else .non
theorem changeplan_ok {c t : T} {ps : List Pay} {M G : Int} {last : Lay} {k0 m : T} {ks pl : List T} (hq : QOk c t ps) (h : Qk c t ps M G)
    (hlast : (layersF c t ps).getLast? = some last) (hks : keys last = k0 :: ks) (hm : minBy (tI k0) (ks.map tI) = tI m) (hp : planGo (layersF c t ps).tail.reverse m [] = some pl) : F_change_plan [tI c, tI t, psD ps] η = .ok (planR c t ps pl) η := by
  unfold F_change_plan
  refine (fun w : wpR (runF 4 b_change_plan [tI c, tI t, psD ps] η) (fun d η' => d = planR c t ps pl ∧ ∃ l, η' = η ++ l) (fun _ _ => False) => ?_) ?_
  · obtain ⟨d, η', e, rfl, l, rfl⟩ := ok_of_wpR w
    refine trim_ok e ?_
    unfold planR
    split
    · exact lows_tI _
    · rfl
  have elen : ∀ η : Store, lenD [psD ps] η = some (.int ps.length, η) := fun η => by
    show lenD [.tup (ps.map pD)] η = _
    rw [lenD_tup, List.length_map]
  have hgl := (N97.go_len (c := c) ps [(t, none)] [[(t, none)]]).2
  have hpl := h.pl
  unfold b_change_plan
  rw [w_runF]
  simp
  refine wpR_of (needq_ok hq) ?_
  obtain ⟨l, e, hL⟩ := layers_ok (η := η) h
  refine wpR_of e ?_
  rw [hL.len]
  simp [elen]
  by_cases hk : ps.length < (layersF c t ps).length
  · simp [hk]
    refine wpR_of (plan_ok hL hlast hks hm hp (by
      show (goF c ps [(t, none)] [[(t, none)]]).length ≤ 1000
      simp at hgl; omega)) ?_
    unfold planR
    rw [if_pos hk]
    exact ⟨rfl, l, rfl⟩
  · simp [hk]
    unfold planR
    rw [if_neg hk]
end K96
namespace K96
open PySem PySem.Spec PyProof.Rows L2 Dn
open N97 (T Pay Lay addL subL sumIn chg keys rg has put addAll layF goF layersF Box POk ordsN ordStep inOrd heapStep heapsF good ded laterF rowsF servedL)
variable {η : Store}
theorem addD_ls {xs ys : List D} (h : xs.length + ys.length ≤ 1000000) : addD (.lst xs) (.lst ys) η = some (.lst (xs ++ ys), η) := by
  rw [addD_lst_lst, if_pos (szle h)]
/-! ### _law_heaps -/
theorem heap1_ok {t : T} {m : Int} {h : T} {x1 x5 : Option D} {F : List T} {P : Po} (hm : 0 ≤ m) (hm2 : m ≤ 20) (hh : h.length ≤ 10) (hF : F.length ≤ 100000)
    (p : P.nx [some (tI t), x1, some (.int m), some (.lst ((F ++ heapStep m [h]).map tI)), some (tI h), x5] η) :
    Dn.wpS (b__law_heaps_1 [some (tI t), x1, some (.int m), some (.lst (F.map tI)), some (tI h), x5] η) P := by
  unfold b__law_heaps_1
  simp [w_lc, w_nx, cmpS, wipeD]
  refine ⟨⟨by omega, by omega⟩, ?_⟩
  rw [rng_rg]
  refine wpR_of (cmp_of D.int (fun s => tI (h ++ [s])) _ fun s hs => ⟨_, rfl, rfl, ok_of_wpR1 ?_⟩) ?_
  · simp [tI]
    exact szle (by omega)
  · have hl : (rg (m + 1)).length ≤ 21 := by rw [N97.rg_len]; omega
    refine ⟨szle (by rw [List.length_map]; omega), ?_⟩
    refine ⟨szle (by simp only [List.length_map]; omega), ?_⟩
    rw [N97.heapStep_one, List.map_append, List.map_map] at p
    exact p
def H1 (t : T) (d1 : D) (m : Int) (F : List T) (η : Store) (j : Nat) (ρ : Dn.Env) (η' : Store) : Prop :=
  ∃ x4 x5, ρ = [some (tI t), some d1, some (.int m), some (.lst ((heapStep m (F.take j)).map tI)), x4, x5] ∧ η' = η
def H2 (t : T) (η : Store) (j : Nat) (ρ : Dn.Env) (η' : Store) : Prop :=
  ∃ x2 x3 x4 x5, ρ = [some (tI t), some (.lst ((heapsF (t.take j) [[]]).map tI)), x2, x3, x4, x5] ∧ η' = η
theorem heaps_ok {t : T} (ht : ∀ x ∈ t, 0 ≤ x ∧ x ≤ 20) (hl : t.length ≤ 3) : F__law_heaps [tI t] η = .ok (.lst ((heapsF t [[]]).map tI)) η := by
  refine ok_of_wpR1 ?_
  unfold F__law_heaps b__law_heaps
  rw [w_runF]
  simp [-w_seq]
  rw [w_seq]
  simp [-w_seq]
  rw [w_seq, w_for]
  have es : srcOf (tI t) η = some (.val (t.map D.int)) := rfl
  simp [-w_seq, es]
  refine w_forL (H2 t η) _ 0 ⟨_, _, _, _, rfl, rfl⟩ ?_ ?_
  · rintro j x hx ρ η' ⟨x2, x3, x4, x5, rfl, rfl⟩
    rw [Nat.zero_add]
    rw [List.getElem?_map] at hx
    cases ej : t[j]? with
    | none => rw [ej] at hx; cases hx
    | some m =>
      rw [ej] at hx
      cases hx
      have hm := ht m (List.mem_of_getElem? ej)
      have hj := (List.getElem?_eq_some_iff.mp ej).1
      have hlen := N97.heaps_len (N := 21) (t.take j) [[]] fun q hq => by have := ht q (List.mem_of_mem_take hq); omega
      have h2 : 21 ^ (t.take j).length ≤ 21 ^ 2 := Nat.pow_le_pow_right (by decide) (by rw [List.length_take]; omega)
      simp only [List.length_singleton, Nat.one_mul] at hlen
      rw [b_bN, wpO_some]
      unfold b__law_heaps_2
      rw [w_seq, w_asg]
      simp [-w_seq]
      rw [w_seq, w_for]
      simp [-w_seq]
      refine w_forL (H1 t (.lst ((heapsF (t.take j) [[]]).map tI)) m (heapsF (t.take j) [[]]) η') _ 0 ⟨_, _, rfl, rfl⟩ ?_ ?_
      · rintro i y hy ρ η2 ⟨a4, a5, rfl, rfl⟩
        rw [Nat.zero_add]
        rw [List.getElem?_map] at hy
        cases ei : (heapsF (t.take j) [[]])[i]? with
        | none => rw [ei] at hy; cases hy
        | some h =>
          rw [ei] at hy
          cases hy
          obtain ⟨h0, hh0, s, hs, e⟩ := N97.mem_heaps.mp (List.mem_of_getElem? ei)
          simp at hh0
          subst hh0
          have hsl := N97.In_len hs
          rw [List.length_take] at hsl
          have hlen3 := N97.heapStep_len (m := m) (N := 21) (by omega) ((heapsF (t.take j) [[]]).take i)
          have h4 : ((heapsF (t.take j) [[]]).take i).length ≤ 441 := by rw [List.length_take]; omega
          show Dn.wpS (b__law_heaps_1 [some (tI t), _, some (.int m), _, some (tI h), a5] _) _
          refine heap1_ok hm.1 hm.2 (by rw [e]; simp; omega) (by omega) ⟨some (tI h), a5, ?_, rfl⟩
          rw [take_succ_at ei, N97.heapStep_app]
      · rintro ρ η2 ⟨a4, a5, rfl, rfl⟩
        rw [Nat.zero_add, List.length_map, List.take_length]
        simp
        refine ⟨some (.int m), some (.lst ((heapStep m (heapsF (t.take j) [[]])).map tI)), a4, a5, ?_, rfl⟩
        rw [take_succ_at ej, N97.heaps_app]
  · rintro ρ η' ⟨x2, x3, x4, x5, rfl, rfl⟩
    rw [Nat.zero_add, List.length_map, List.take_length]
    exact ⟨rfl, rfl⟩
end K96
namespace K96
open PySem PySem.Spec PyProof.Rows L2 Dn
open N97 (T Pay Lay addL subL sumIn chg keys rg has put addAll layF goF layersF Box POk ordsN ordStep inOrd heapStep heapsF good ded laterF rowsF servedL)
variable {η : Store}
/-! ### dicts of tills -/
def encB (l : List T) : List (List Key × D) := l.map fun k => (kI k, .bl true)
theorem any_encB (l : List T) (k : T) : ((encB l).any fun kv => decide (kv.1 = kI k)) = decide (k ∈ l) := by
  induction l with
  | nil => rfl
  | cons x l ih =>
    show (decide (kI x = kI k) || (encB l).any fun kv => decide (kv.1 = kI k)) = _
    rw [ih]
    have e : decide (kI x = kI k) = decide (x = k) := decide_eq_decide.mpr kI_inj
    rw [e]
    by_cases h1 : x = k
    · simp [h1]
    · have h2 : ¬ k = x := fun e => h1 e.symm
      simp [h1, h2]
theorem put_encB (l : List T) (k : T) : putD (encB l) (kI k) (.bl true) = encB (if k ∈ l then l else l ++ [k]) := by
  unfold putD
  rw [any_encB]
  by_cases h : k ∈ l
  · rw [if_pos (by simpa using h), if_pos h]
    unfold encB
    rw [List.map_map]
    refine List.map_congr_left fun x _ => ?_
    show (if kI x = kI k then (kI x, D.bl true) else (kI x, D.bl true)) = _
    split <;> rfl
  · rw [if_neg (by simpa using h), if_neg h]
    simp [encB]
theorem merge_encB : ∀ (ks acc : List T), mergeT (encB acc) (encB ks) = encB (ded acc ks)
  | [], acc => rfl
  | k :: ks, acc => by
    show mergeT (putD (encB acc) (kI k) (.bl true)) (encB ks) = _
    rw [put_encB, merge_encB]; rfl
theorem pairs_encB : ∀ ks : List T, pairsT (ks.map fun k => .tup [tI k, .bl true]) = some (encB ks)
  | [] => rfl
  | k :: ks => by
    rw [List.map_cons]
    show ((pairT (.tup [tI k, .bl true])).bind fun kv => (pairsT (ks.map fun k => .tup [tI k, .bl true])).map (kv :: ·)) = _
    rw [pairs_encB ks]
    show (((keysD (tI k)).map fun ks => (ks, D.bl true)).bind fun kv => (some (encB ks)).map (kv :: ·)) = _
    rw [keysD_tI]; rfl
theorem sqOf_tI (t : T) (η : Store) : sqOf (tI t) η = some (.val (t.map D.int)) := rfl
theorem dict_at (ks : List T) : dictT [.lst (ks.map fun k => .tup [tI k, .bl true])] η = some (.obj η.length, η ++ [.dT (encB (ded [] ks))]) := by
  unfold dictT
  have e : seqL (.lst (ks.map fun k => D.tup [tI k, .bl true])) η = some (ks.map fun k => D.tup [tI k, .bl true]) := rfl
  dsimp only
  rw [e]
  dsimp only
  rw [pairs_encB]
  dsimp only
  rw [← merge_encB]; rfl
theorem intKeys_kI : ∀ k : T, intKeys (kI k) = some k
  | [] => rfl
  | x :: k => by
    show (intKeys (kI k)).map (x :: ·) = _
    rw [intKeys_kI k]; rfl
theorem intKss_kI : ∀ ks : List T, intKss (ks.map kI) = some ks
  | [] => rfl
  | k :: ks => by
    show ((intKeys (kI k)).bind fun ns => (intKss (ks.map kI)).map (ns :: ·)) = _
    rw [intKeys_kI, intKss_kI ks]; rfl
theorem hash_encB {d : Nat} (hd : d ≤ 3) {ks : List T} (hn : ks.Nodup) (hb : ∀ k ∈ ks, Box 10 d k) : hashOk (encB ks) = true := by
  unfold hashOk
  have e : (encB ks).map (·.1) = ks.map kI := by unfold encB; rw [List.map_map]; rfl
  rw [e, intKss_kI]
  exact decide_eq_true (HT.hash_nodup hd hn hb)
theorem upd_at {r j d : Nat} {acc dk : List T} (h1 : η[r]? = some (.dT (encB acc))) (h2 : η[j]? = some (.dT (encB dk))) (hne : r ≠ j) (hz : acc.length + dk.length ≤ 1000000) (hd : d ≤ 3) (hn : dk.Nodup) (hb : ∀ k ∈ dk, Box 10 d k) :
    updT (.obj r) [.obj j] η = some (.non, η.set r (.dT (encB (ded acc dk)))) := by
  unfold updT
  dsimp only
  rw [h1, h2]
  dsimp only
  rw [if_pos ⟨hne, by unfold encB; rw [List.length_map, List.length_map]; exact szle hz, .inr (hash_encB hd hn hb)⟩, merge_encB]
theorem tyD_at {r : Nat} {kvs : List (List Key × D)} (h : η[r]? = some (.dT kvs)) : tyM "dict" (.obj r) η = true := by
  unfold tyM; dsimp only; rw [h]; rfl
/-! ### one till -/
abbrev Tρ (c t : T) (ps : List Pay) (k3 : Nat) (p : Pay) (r : Nat) (x7 x8 x9 x10 x11 x12 : Option D) : Dn.Env := [some (tI c), some (tI t), some (psD ps), some (.obj k3), some (.int p.1), some (tI p.2), some (.obj r), x7, x8, x9, x10, x11, x12]
theorem till1_ok {c t : T} {ps : List Pay} {k3 r : Nat} {p : Pay} {now : T} {x8 x9 x10 x11 x12 : Option D} {acc : List T} {P : Po} (hc : ∀ x ∈ c, 1 ≤ x ∧ x ≤ 12) (hcl : c.length ≤ 3) (h : η[r]? = some (.dT (encB acc)))
    (hl : now.length = c.length) (hf : ∀ x ∈ addL now p.2, 0 ≤ x ∧ x ≤ 10) (hfl : (addL now p.2).length = c.length) (ha : acc.length ≤ 500000)
    (q : ∀ x8 x11, P.nx (Tρ c t ps k3 p r (some (tI now)) x8 x9 x10 x11 x12) (η.set r (.dT (encB (ded acc (ded [] ((good c (addL now p.2) (sumIn c p.2 - p.1)).map (subL (addL now p.2))))))) ++ [.dT (encB (ded [] ((good c (addL now p.2) (sumIn c p.2 - p.1)).map (subL (addL now p.2)))))])) :
    Dn.wpS (b__law_tills_1 (Tρ c t ps k3 p r (some (tI now)) x8 x9 x10 x11 x12) η) P := by
  have hr : r < η.length := (List.getElem?_eq_some_iff.mp h).1
  generalize hfu : addL now p.2 = full at *
  have hgl : (good c full (sumIn c p.2 - p.1)).length ≤ 1331 := by
    have h1 := N97.good_len (c := c) (a := sumIn c p.2 - p.1) (N := 11) (t := full) fun x hx => by have := (hf x hx).2; omega
    have h2 : 11 ^ full.length ≤ 11 ^ 3 := Nat.pow_le_pow_right (by decide) (by omega)
    omega
  have hhl : (heapsF full [[]]).length ≤ 1331 := by
    have h1 := N97.heaps_len (N := 11) full [[]] fun x hx => by have := (hf x hx).2; omega
    have h2 : 11 ^ full.length ≤ 11 ^ 3 := Nat.pow_le_pow_right (by decide) (by omega)
    simp at h1
    omega
  unfold b__law_tills_1
  rw [w_seq, w_asg, w_eL, w_aCons, w_lc]
  simp [-w_seq, w_nx, cmpS, Tρ, sqOf_tI]
  refine wpR_of (comp2 (i := 9) (j := 10) (f := fun x y => x + y) ?_ ?_ (by decide) fun x y η => rfl) ?_
  · simp [wipeD]
  · simp [wipeD]
  have efull : tI (addL now p.2) = .tup ((now.zip p.2).map fun q => D.int (q.1 + q.2)) := by simp [tI, addL]
  rw [hfu] at efull
  refine ⟨szle (by simp; omega), ?_⟩
  rw [← efull]
  rw [w_seq, w_asg, w_lc, w_iVal]
  simp [-w_seq, w_nx]
  refine wpR_of (heaps_ok (fun x hx => ⟨(hf x hx).1, by have := (hf x hx).2; omega⟩) (by omega)) ?_
  simp [-w_seq, cmpS]
  refine wpR_of (cmp_off (α := T) tI tI (fun h => decide (sumIn c h = sumIn c p.2 - p.1)) _ fun h hh => ⟨_, rfl, ok_of_wpR1 ?_, fun _ => rfl⟩) ?_
  · simp [wipeD]
    refine wpR_of (lawsum_ok hc (by omega)) ?_
    refine wpR_of (lawsum_ok hc (by omega)) ?_
    have e0 : ∀ (x y : Int) (η : Store), Dn.eqT (.int x) (.int y) η = some (.bl (decide (x = y)), η) := fun x y η => by
      show eqD (.int x) (.int y) η = _
      rw [eqD_int]
    simp [e0]
  · have eg : ((heapsF full [[]]).filter fun h => decide (sumIn c h = sumIn c p.2 - p.1)) = good c full (sumIn c p.2 - p.1) := rfl
    rw [eg]
    refine ⟨szle (by rw [List.length_map]; omega), ?_⟩
    simp [w_lc, w_nx, cmpS]
    refine ⟨tyD_at h, ?_⟩
    refine wpR_of (cmp_of (α := T) tI (fun h => .tup [tI (subL full h), .bl true]) _ fun h hh => ⟨_, rfl, rfl, ok_of_wpR1 ?_⟩) ?_
    · simp [w_lc, w_nx, cmpS, wipeD, sqOf_tI]
      refine wpR_of (comp2 (i := 9) (j := 10) (f := fun x y => x - y) ?_ ?_ (by decide) fun x y η => rfl) ?_
      · simp
      · simp
      · refine ⟨szle (by simp; omega), ?_⟩
        simp [subL, tI]
    · refine ⟨szle (by rw [List.length_map]; omega), ?_⟩
      have em : ((good c full (sumIn c p.2 - p.1)).map fun h => D.tup [tI (subL full h), .bl true]) = ((good c full (sumIn c p.2 - p.1)).map (subL full)).map fun k => D.tup [tI k, .bl true] := by
        rw [List.map_map]; rfl
      rw [em, dict_at, wpO_some]
      dsimp only
      have hdk : (ded [] ((good c full (sumIn c p.2 - p.1)).map (subL full))).Nodup := N97.nodup_ded (by simp)
      have hbx : ∀ k ∈ ded [] ((good c full (sumIn c p.2 - p.1)).map (subL full)), Box 10 c.length k := by
        intro k hk
        rcases N97.mem_ded.mp hk with q | q
        · cases q
        · obtain ⟨h, hh, rfl⟩ := List.mem_map.mp q
          refine N97.box_sub ⟨hfl, fun x hx => hf x hx⟩ (N97.mem_good.mp hh).1
      have hdl : (ded [] ((good c full (sumIn c p.2 - p.1)).map (subL full))).length ≤ 1331 := by
        have h1 := N97.len_box hdk hbx
        rw [N97.boxL_len] at h1
        have h2 : ((10 : Int) + 1).toNat ^ c.length ≤ 11 ^ 3 := Nat.pow_le_pow_right (by decide) hcl
        omega
      have hu := upd_at (η := η ++ [.dT (encB (ded [] ((good c full (sumIn c p.2 - p.1)).map (subL full))))]) (r := r) (j := η.length) (acc := acc) (dk := ded [] ((good c full (sumIn c p.2 - p.1)).map (subL full)))
        (by rw [List.getElem?_append_left hr]; exact h) getapp (by omega) (by omega) hcl hdk hbx
      rw [hu, wpO_some, app_set hr]
      exact q _ _
end K96
namespace K96
open PySem PySem.Spec PyProof.Rows L2 Dn
open N97 (T Pay Lay addL subL sumIn chg keys rg has put addAll layF goF layersF Box POk ordsN ordStep inOrd heapStep heapsF good ded laterF rowsF servedL)
variable {η : Store}
def rowD (r : List T) : D := .lst (r.map tI)
def srtT (l : List T) : List T := l.mergeSort fun a b => leD (tI a) (tI b)
theorem srtT_perm (l : List T) : (srtT l).Perm l := List.mergeSort_perm _ _
theorem srtD_tI (l : List T) : srtD (l.map tI) = (srtT l).map tI := by
  unfold srtD srtT
  exact (List.map_mergeSort (f := tI) (r := fun a b => leD (tI a) (tI b)) (s := leD) (fun a _ b _ => rfl)).symm
theorem keysT_encB (l : List T) : keysT (encB l) = l.map tI := by
  unfold keysT encB
  rw [List.map_map]
  exact List.map_congr_left fun k _ => dK_kI k
theorem sort_at {r : Nat} {l : List T} (h : η[r]? = some (.dT (encB l))) (hl : ∀ t ∈ l, t ≠ []) : sortX [.obj r] η = some (rowD (srtT l), η) := by
  unfold sortX
  dsimp only
  rw [h]
  dsimp only
  rw [keysT_encB, pds0_tI]
  dsimp only
  have e : sortOk (l.map pI) = true := by
    unfold sortOk
    rw [ord_tI]
    have : (l.map pI).all isTC = true := by
      refine List.all_eq_true.mpr fun p hp => ?_
      obtain ⟨t, ht, rfl⟩ := List.mem_map.mp hp
      cases t with
      | nil => exact absurd rfl (hl _ ht)
      | cons x t => rfl
    rw [this]; rfl
  rw [if_pos e, srtD_tI]; rfl
/-! ### one payer -/
structure Lk (c : T) (p : Pay) (M G : Int) (row : List T) : Prop where
  cr : ∀ x ∈ c, 1 ≤ x ∧ x ≤ 12
  cl : c.length ≤ 3
  c1 : 1 ≤ c.length
  p : POk G c p
  bx : ∀ k ∈ row, Box M c.length k
  s1 : M + G ≤ 10
theorem later_box {c : T} {M G : Int} {p : Pay} (hp : POk G c p) {row pre : List T} (hb : ∀ k ∈ row, Box M c.length k) (h1 : ∀ k ∈ pre, k ∈ row) : ∀ k ∈ laterF c p.1 p.2 pre [], Box (M + G) c.length k := by
  intro k hk
  rcases N97.mem_later.mp hk with q | ⟨n, hn, h, hh, rfl⟩
  · cases q
  · exact N97.box_sub (N97.box_add (hb n (h1 n hn)) hp.1) (N97.mem_good.mp hh).1
theorem later_len {c : T} {M G : Int} {p : Pay} {row pre : List T} (h : Lk c p M G row) (h1 : ∀ k ∈ pre, k ∈ row) : (laterF c p.1 p.2 pre []).length ≤ 1331 := by
  have hb : ∀ k ∈ laterF c p.1 p.2 pre [], Box 10 c.length k := fun k hk => (later_box h.p h.bx h1 k hk).mono h.s1
  have := N97.len_box (N97.nodup_later (by simp)) hb
  rw [N97.boxL_len] at this
  have h2 : ((10 : Int) + 1).toNat ^ c.length ≤ 11 ^ 3 := Nat.pow_le_pow_right (by decide) h.cl
  omega
def L1 (c t : T) (ps : List Pay) (k3 : Nat) (p : Pay) (row : List T) (η1 : Store) (j : Nat) (ρ : Dn.Env) (η' : Store) : Prop :=
  ∃ x7 x8 x9 x10 x11 x12 l, ρ = Tρ c t ps k3 p η1.length x7 x8 x9 x10 x11 x12 ∧ η' = η1 ++ .dT (encB (laterF c p.1 p.2 (row.take j) [])) :: l
theorem set_mid {A l : Store} {x o : O} : (A ++ x :: l).set A.length o = A ++ o :: l := by simp
theorem till2_ok {c t : T} {ps : List Pay} {p : Pay} {M G : Int} {row : List T} {rows : List (List T)} {x6 x7 x8 x9 x10 x11 x12 : Option D} {η1 l1 : Store} {P : Po} (h : Lk c p M G row) (hrows : rows.getLast? = some row) (hrl : rows.length ≤ 1000)
    (q : ∀ x6 x7 x8 x9 x10 x11 x12 l, P.nx [some (tI c), some (tI t), some (psD ps), some (.obj η1.length), some (.int p.1), some (tI p.2), x6, x7, x8, x9, x10, x11, x12] (η1 ++ .lst ((rows ++ [srtT (laterF c p.1 p.2 row [])]).map rowD) :: l)) :
    Dn.wpS (b__law_tills_2 [some (tI c), some (tI t), some (psD ps), some (.obj η1.length), some (.int p.1), some (tI p.2), x6, x7, x8, x9, x10, x11, x12] (η1 ++ .lst (rows.map rowD) :: l1)) P := by
  have hne : rows ≠ [] := fun e => by rw [e] at hrows; cases hrows
  unfold b__law_tills_2
  rw [w_seq, w_asg, w_mkDT]
  simp only [b_bN, wpO_some]
  generalize hA : η1 ++ O.lst (rows.map rowD) :: l1 = A
  have hk : A[η1.length]? = some (.lst (rows.map rowD)) := by rw [← hA]; simp
  have hkl : η1.length < A.length := (List.getElem?_eq_some_iff.mp hk).1
  rw [w_seq, w_for, w_iVal]
  have hk' : (A ++ [O.dT []])[η1.length]? = some (.lst (rows.map rowD)) := by rw [List.getElem?_append_left hkl]; exact hk
  have elast : e2 ixX (gv 3) (e1 negD (cst (.int 1))) (Tρ c t ps η1.length p A.length x7 x8 x9 x10 x11 x12) (A ++ [.dT []]) = .ok (rowD row) (A ++ [.dT []]) := by
    refine ok_of_wpR1 ?_
    have e1 : ixX (.obj η1.length) (.int (-1)) (A ++ [.dT []]) = some (rowD row, A ++ [.dT []]) := by
      have e0 : dget (.obj η1.length) (.int (-1)) (A ++ [.dT []]) = none := by
        unfold dget
        dsimp only
        rw [hk']
      unfold ixX
      rw [e0]
      show ixD (.obj η1.length) (.int (-1)) _ = _
      rw [ixD_obj hk', atI_last (by simpa using hne), List.getLast_map]
      rw [List.getLast?_eq_some_getLast hne] at hrows
      rw [Option.some.inj hrows]; rfl
    simp [e1, Tρ]
  refine wpR_of elast ?_
  show Dn.wpS (forL (bN 7) b__law_tills_1 (row.map tI) (Tρ c t ps η1.length p A.length x7 x8 x9 x10 x11 x12) (A ++ [.dT []])) _
  refine w_forL (L1 c t ps η1.length p row A) _ 0 ⟨_, _, _, _, _, _, [], rfl, rfl⟩ ?_ ?_
  · rintro j x hx ρ η' ⟨a7, a8, a9, a10, a11, a12, l, rfl, rfl⟩
    rw [Nat.zero_add]
    rw [List.getElem?_map] at hx
    cases ej : row[j]? with
    | none => rw [ej] at hx; cases hx
    | some now =>
      rw [ej] at hx
      cases hx
      have hm := List.mem_of_getElem? ej
      have hb := h.bx now hm
      have ba := (N97.box_add hb h.p.1).mono h.s1
      have hll := later_len h (pre := row.take j) fun k hk => List.mem_of_mem_take hk
      show Dn.wpS (b__law_tills_1 (Tρ c t ps η1.length p A.length (some (tI now)) a8 a9 a10 a11 a12) _) _
      refine till1_ok (acc := laterF c p.1 p.2 (row.take j) []) h.cr h.cl (by simp) hb.1 ba.2 ba.1 (by omega) fun y8 y11 => ?_
      refine ⟨_, _, _, _, _, _, l ++ [.dT (encB (ded [] ((good c (addL now p.2) (sumIn c p.2 - p.1)).map (subL (addL now p.2)))))], rfl, ?_⟩
      rw [set_mid, take_succ_at ej, N97.later_app]
      simp
  · rintro ρ η' ⟨a7, a8, a9, a10, a11, a12, l, rfl, rfl⟩
    rw [Nat.zero_add, List.length_map, List.take_length]
    have hk2 : (A ++ O.dT (encB (laterF c p.1 p.2 row [])) :: l)[η1.length]? = some (.lst (rows.map rowD)) := by rw [List.getElem?_append_left hkl]; exact hk
    have hr2 : (A ++ O.dT (encB (laterF c p.1 p.2 row [])) :: l)[A.length]? = some (.dT (encB (laterF c p.1 p.2 row []))) := by simp
    dsimp only
    rw [w_exp, w_eMt, w_gv]
    simp only [Tρ, List.getElem?_cons_zero, List.getElem?_cons_succ, wpO_some]
    refine ⟨tyM_obj hk2, ?_⟩
    rw [w_aCons, w_eL, w_aCons, w_gv]
    simp only [List.getElem?_cons_zero, List.getElem?_cons_succ, wpO_some, w_aNil]
    have hne2 : ∀ t ∈ laterF c p.1 p.2 row [], t ≠ [] := fun t ht e => by
      have := (later_box h.p h.bx (fun k hk => hk) t ht).1
      have h1 := h.c1
      rw [e] at this
      simp at this
      omega
    rw [sort_at hr2 hne2, wpO_some, appD_obj hk2 (by rw [List.length_map]; exact Nat.lt_of_le_of_lt hrl (by decide)), wpO_some]
    have e9 : (A ++ O.dT (encB (laterF c p.1 p.2 row [])) :: l).set η1.length (.lst (rows.map rowD ++ [rowD (srtT (laterF c p.1 p.2 row []))])) = η1 ++ .lst ((rows ++ [srtT (laterF c p.1 p.2 row [])]).map rowD) :: (l1 ++ O.dT (encB (laterF c p.1 p.2 row [])) :: l) := by
      rw [← hA]
      simp
    dsimp only
    rw [e9]
    exact q _ _ _ _ _ _ _ _
/-! ### all payers -/
structure Wk (c t : T) (ps : List Pay) (M G : Int) : Prop where
  cr : ∀ x ∈ c, 1 ≤ x ∧ x ≤ 12
  cl : c.length ≤ 3
  c1 : 1 ≤ c.length
  t : Box M c.length t
  pk : ∀ p ∈ ps, POk G c p
  g : 0 ≤ G
  s1 : M + G * (ps.length : Int) ≤ 10
  pl : ps.length ≤ 8
theorem Wk.turn {c t : T} {ps : List Pay} {M G : Int} (h : Wk c t ps M G) {j : Nat} {p : Pay} (hj : ps[j]? = some p) {row : List T} (hb : ∀ k ∈ row, Box (M + G * (j : Int)) c.length k) : Lk c p (M + G * (j : Int)) G row := by
  have hjl : j < ps.length := (List.getElem?_eq_some_iff.mp hj).1
  have e : M + G * (j : Int) + G = M + G * ((j + 1 : Nat) : Int) := by
    rw [Int.natCast_add, Int.mul_add]; omega
  have h1 : G * ((j + 1 : Nat) : Int) ≤ G * (ps.length : Int) := Int.mul_le_mul_of_nonneg_left (by omega) h.g
  exact ⟨h.cr, h.cl, h.c1, h.pk p (List.mem_of_getElem? hj), hb, by rw [e]; have := h.s1; omega⟩
def L2' (c t : T) (ps : List Pay) (M G : Int) (η : Store) (j : Nat) (ρ : Dn.Env) (η' : Store) : Prop :=
  ∃ x4 x5 x6 x7 x8 x9 x10 x11 x12 rows row l, ρ = [some (tI c), some (tI t), some (psD ps), some (.obj η.length), x4, x5, x6, x7, x8, x9, x10, x11, x12] ∧ η' = η ++ .lst (rows.map rowD) :: l ∧ rows.getLast? = some row ∧ rows.length = j + 1 ∧
    (∀ k ∈ row, Box (M + G * (j : Int)) c.length k) ∧ rowsF srtT c (ps.drop j) row rows = rowsF srtT c ps [t] [[t]]
theorem lows_row {n : Nat} : ∀ l : List (List T), D.lows n (l.map rowD) = true
  | [] => rfl
  | r :: l => by
    show (D.lows n (r.map tI) && D.lows n (l.map rowD)) = true
    rw [lows_row l, lows_tI]; rfl
theorem tills_ok {c t : T} {ps : List Pay} {M G : Int} (h : Wk c t ps M G) : F__law_tills [tI c, tI t, psD ps] η = .ok (.lst ((rowsF srtT c ps [t] [[t]]).map rowD)) η := by
  unfold F__law_tills
  refine (fun w : wpR (runF 13 b__law_tills [tI c, tI t, psD ps] η) (fun d η' => d = .obj η.length ∧ ∃ l, η' = η ++ .lst ((rowsF srtT c ps [t] [[t]]).map rowD) :: l) (fun _ _ => False) => ?_) ?_
  · obtain ⟨d, η', e, rfl, l, rfl⟩ := ok_of_wpR w
    exact trim_lst e (lows_row _)
  have hpl := h.pl
  unfold b__law_tills
  rw [w_runF]
  rw [w_seq, w_asg]
  simp only [List.map_cons, List.map_nil, List.cons_append, List.nil_append, w_mkO, w_mkL, w_aCons, w_aNil, w_gv, List.length_cons, List.length_nil, Nat.reduceAdd, Nat.reduceSub, List.replicate_succ, List.replicate_zero, List.getElem?_cons_zero, List.getElem?_cons_succ, wpO_some, b_bN, List.set_cons_succ, List.set_cons_zero]
  refine ⟨szle (by omega), szle (by omega), ?_⟩
  rw [w_seq, w_for, w_iVal, w_gv]
  simp only [List.getElem?_cons_zero, List.getElem?_cons_succ, wpO_some]
  have es : ∀ η : Store, srcOf (psD ps) η = some (.val (ps.map pD)) := fun _ => rfl
  rw [es, wpO_some]
  dsimp only
  refine w_forL (L2' c t ps M G η) _ 0 ⟨none, none, none, none, none, none, none, none, none, [[t]], [t], [], rfl, rfl, rfl, rfl, ?_, rfl⟩ ?_ ?_
  · intro k hk
    simp at hk
    subst hk
    have := h.t
    simpa using this
  · rintro j x hx ρ η' ⟨x4, x5, x6, x7, x8, x9, x10, x11, x12, rows, row, l, rfl, rfl, hlast, hal, hbx, hgo⟩
    rw [List.getElem?_map] at hx
    cases ej : ps[j]? with
    | none => rw [ej] at hx; cases hx
    | some p =>
      rw [ej] at hx
      cases hx
      rw [Nat.zero_add] at hbx hgo hal ⊢
      have hjl : j < ps.length := (List.getElem?_eq_some_iff.mp ej).1
      have hT := h.turn ej hbx
      have hdr : ps.drop j = p :: ps.drop (j + 1) := by
        rw [List.drop_eq_getElem_cons hjl]
        have := (List.getElem?_eq_some_iff.mp ej).2
        rw [this]
      rw [hdr] at hgo
      replace hgo : rowsF srtT c (ps.drop (j + 1)) (srtT (laterF c p.1 p.2 row [])) (rows ++ [srtT (laterF c p.1 p.2 row [])]) = rowsF srtT c ps [t] [[t]] := hgo
      show Dn.wpS (b__law_tills_2 [some (tI c), some (tI t), some (psD ps), some (.obj η.length), some (.int p.1), some (tI p.2), x6, x7, x8, x9, x10, x11, x12] _) _
      refine till2_ok hT hlast (by omega) fun y6 y7 y8 y9 y10 y11 y12 l2 => ?_
      refine ⟨_, _, _, _, _, _, _, _, _, rows ++ [srtT (laterF c p.1 p.2 row [])], srtT (laterF c p.1 p.2 row []), l2, rfl, rfl, by simp, by simp [hal], fun k hk => ?_, hgo⟩
      have e4 : M + G * ((j + 1 : Nat) : Int) = M + G * (j : Int) + G := by
        rw [Int.natCast_add, Int.mul_add]; omega
      rw [e4]
      exact later_box hT.p hbx (fun k hk => hk) k ((srtT_perm _).mem_iff.mp hk)
  · rintro ρ η' ⟨x4, x5, x6, x7, x8, x9, x10, x11, x12, rows, row, l, rfl, rfl, hlast, hal, hbx, hgo⟩
    rw [Nat.zero_add, List.length_map, List.drop_length] at hgo
    have hgo' : rows = rowsF srtT c ps [t] [[t]] := hgo
    subst hgo'
    dsimp only
    rw [w_ret, w_gv]
    exact ⟨rfl, l, rfl⟩
theorem ne_row (r : List T) : neD (rowD r) (.lst []) η = some (.bl (decide (r ≠ [])), η) := by
  have h1 : pd (rowD r) η = some (.list (r.map pI)) := by
    show (pds0 (r.map tI)).map PyData.list = _
    rw [pds0_tI]; rfl
  have h2 : pd (.lst []) η = some (.list []) := rfl
  have h3 : ∀ l : List T, PyData.canLayAll0 (l.map pI) = true := fun l => by
    induction l with
    | nil => rfl
    | cons t l ih =>
      show (PyData.canLayAll0 (t.map PyData.int) && PyData.canLayAll0 (l.map pI)) = true
      rw [ih, plain_ints]; rfl
  have h4 : plainQ (.list (r.map pI)) := by
    show (PyData.canLayAll0 (r.map pI) && decide (PyData.depth (.list (r.map pI)) ≤ 64)) = true
    rw [h3]
    have : PyData.depth (.list (r.map pI)) ≤ 64 := by
      have := dep_tI r
      simp only [PyData.depth]; omega
    simpa using this
  unfold neD
  rw [h1, h2]
  dsimp only
  rw [if_pos ⟨h4, by show SeqAt.shaped (.list []) = true; rfl⟩]
  cases r with
  | nil => rfl
  | cons t r => simp [PyData.eqv, PyData.eqvAll]
theorem lawserved_ok {c t : T} {ps : List Pay} {M G : Int} (h : Wk c t ps M G) (hz : (rowsF srtT c ps [t] [[t]]).length ≤ 1000) : F__law_served [tI c, tI t, psD ps] η = .ok (.int (servedL srtT c t ps)) η := by
  refine ok_of_wpR1 ?_
  unfold F__law_served b__law_served
  rw [w_runF]
  rw [w_seq, w_asg]
  simp [-w_seq]
  refine wpR_of (tills_ok h) ?_
  rw [w_lc, w_iVal]
  simp [w_nx, cmpS]
  refine wpR_of (cmp_off (α := List T) rowD rowD (fun r => decide (r ≠ [])) _ fun r hr => ⟨_, rfl, ok_of_wpR1 ?_, fun _ => rfl⟩) ?_
  · simp [wipeD, ne_row]
  · refine ⟨szle (by rw [List.length_map]; exact Nat.le_trans (List.length_filter_le _ _) (by omega)), ?_⟩
    simp [servedL]
end K96
namespace K96
open PySem PySem.Spec PyProof.Rows L2 Dn
open N97 (T Pay Lay addL subL sumIn chg keys rg has put addAll layF goF layersF Box POk ordsN ordStep inOrd heapStep heapsF good ded laterF rowsF servedL)
variable {η : Store}
/-! ### the law's coins -/
def encK (ks : List Int) : List (Key × D) := ks.map fun k => (.inl k, .bl true)
theorem any_encK (l : List Int) (k : Int) : ((encK l).any fun kv => decide (kv.1 = .inl k)) = decide (k ∈ l) := by
  induction l with
  | nil => rfl
  | cons x l ih =>
    show (decide ((Sum.inl x : Key) = .inl k) || (encK l).any fun kv => decide (kv.1 = .inl k)) = _
    rw [ih]
    by_cases h1 : x = k
    · simp [h1]
    · have h2 : ¬ k = x := fun e => h1 e.symm
      simp [h1, h2]
def addK (l : List Int) (k : Int) : List Int := if k ∈ l then l else l ++ [k]
theorem put_encK (l : List Int) (k : Int) : putD (encK l) (.inl k) (.bl true) = encK (addK l k) := by
  unfold putD addK
  rw [any_encK]
  by_cases h : k ∈ l
  · rw [if_pos (by simpa using h), if_pos h]
    unfold encK
    rw [List.map_map]
    refine List.map_congr_left fun x _ => ?_
    show (if (Sum.inl x : Key) = .inl k then ((.inl x : Key), D.bl true) else (.inl x, D.bl true)) = _
    split <;> rfl
  · rw [if_neg (by simpa using h), if_neg h]
    simp [encK]
theorem setK_at {n : Nat} {ks : List Int} {x : Int} (h : η[n]? = some (.dK (encK ks))) (hl : ks.length < 1000) : setD (.obj n) (.int x) (.bl true) η = some (η.set n (.dK (encK (addK ks x)))) := by
  unfold setD
  dsimp only
  rw [h]
  dsimp only
  have e : keyD (.int x) = some (.inl x) := rfl
  rw [e]
  dsimp only
  rw [if_pos (by unfold encK; rw [List.length_map]; exact Nat.lt_of_lt_of_le hl (by decide)), put_encK]
theorem intKeys_map : ∀ ks : List Int, intKeys (ks.map Sum.inl) = some ks
  | [] => rfl
  | x :: k => by
    show (intKeys (k.map Sum.inl)).map (x :: ·) = _
    rw [intKeys_map k]; rfl
theorem sortK_at {n : Nat} {ks : List Int} (h : η[n]? = some (.dK (encK ks))) (hl : ks.length < 64) : sortedD [.obj n] η = some (.lst ((sortI ks).map D.int), η) := by
  have e0 : seqL (.obj n) η = none := by unfold seqL; dsimp only; rw [h]
  unfold sortedD
  dsimp only
  rw [e0]
  dsimp only
  rw [h]
  dsimp only
  have e1 : (encK ks).map (·.1) = ks.map Sum.inl := by unfold encK; rw [List.map_map]; rfl
  rw [e1, intKeys_map]
  dsimp only
  rw [if_pos hl]
theorem addK_ok {l : List Int} {k : Int} {m : Nat} (hn : l.Nodup) (hr : ∀ x ∈ l, 1 ≤ x ∧ x ≤ 12) (hl : l.length ≤ m) (hk : 1 ≤ k ∧ k ≤ 12) : (addK l k).Nodup ∧ (∀ x ∈ addK l k, 1 ≤ x ∧ x ≤ 12) ∧ (addK l k).length ≤ m + 1 ∧ 1 ≤ (addK l k).length := by
  unfold addK
  split
  · rename_i h
    exact ⟨hn, hr, by omega, List.length_pos_of_mem h⟩
  · rename_i h
    refine ⟨List.nodup_append.mpr ⟨hn, by simp, fun a ha b hb e => ?_⟩, fun x hx => ?_, by simp; omega, by simp⟩
    · simp at hb
      subst hb e
      exact h ha
    · rcases List.mem_append.mp hx with q | q
      · exact hr x q
      · simp at q; subst q; exact hk
theorem rise_sort {ks : List Int} (hn : ks.Nodup) : rise (sortI ks) = true := by
  refine rise_iff.mpr ?_
  have h1 := sortI_sorted ks
  have h2 : (sortI ks).Nodup := (sortI_perm ks).nodup_iff.mpr hn
  exact (List.pairwise_and_iff.mpr ⟨h1, h2⟩).imp fun ⟨a, b⟩ => by omega
theorem cutL_to {xs : List D} {n : Nat} : cutL xs none (some (n : Int)) = xs.take n := by
  unfold cutL
  rw [HT.sIx_none]
  have e : HT.sIx xs.length xs.length (some (n : Int)) = min n xs.length := HT.sIx_nat _ _ n
  rw [e]
  simp
def C1 (n : Nat) (j : Nat) (ρ : Dn.Env) (η' : Store) : Prop :=
  ∃ x4 ks, ρ = [some (.obj 0), some (.int 3), some (.int 12), some (.obj n), x4] ∧ Cup 0 η' ∧ η'[n]? = some (.dK (encK ks)) ∧ ks.Nodup ∧ (∀ x ∈ ks, 1 ≤ x ∧ x ≤ 12) ∧ ks.length ≤ j ∧ (1 ≤ j → 1 ≤ ks.length)
theorem lawcoins_ok (c : Cup 0 η) {Q : D → Store → Prop} {E : Ex → Store → Prop} (q : ∀ cs η', (∀ x ∈ cs, 1 ≤ x ∧ x ≤ 12) → rise cs = true → 1 ≤ cs.length → cs.length ≤ 4 → Cup 0 η' → Q (tI cs) η') : wpR (F__law_coins [.obj 0, .int 3, .int 12] η) Q E := by
  have h0 := c.lt
  unfold F__law_coins b__law_coins
  rw [w_runF]
  rw [w_seq, w_asg]
  simp [-w_seq]
  rw [w_seq, w_for]
  simp [-w_seq]
  refine roll_ok.wp c.app (by decide) (by decide) fun r η1 hr0 hr1 c1 k1 => ?_
  have e1 : η1[η.length]? = some (.dK (encK [])) := by
    rw [k1.eq _ (by simp) (by omega)]
    exact getapp
  simp [-w_seq]
  refine ⟨⟨by omega, by omega⟩, ?_⟩
  refine w_forL (C1 η.length) _ 0 ⟨_, [], rfl, c1, e1, by simp, by simp, by simp, by omega⟩ ?_ ?_
  · rintro j x hx ρ η2 ⟨x4, ks, rfl, c2, e2, hn, hr, hl, _⟩
    rw [Nat.zero_add] at hl ⊢
    have hj : j < (1 + r).toNat := by
      have := (List.getElem?_eq_some_iff.mp hx).1
      rwa [rng_length] at this
    rw [b_bN, wpO_some]
    unfold b__law_coins_1
    simp
    refine roll_ok.wp c2 (by decide) (by decide) fun r1 η3 a0 a1 c3 k3 => ?_
    refine roll_ok.wp c3 (by decide) (by decide) fun r2 η4 a2 a3 c4 k4 => ?_
    refine roll_ok.wp c4 (by decide) (by decide) fun r3 η5 a4 a5 c5 k5 => ?_
    refine some_ok.wp c5 (by simp) (by simp) fun y η6 hy c6 k6 => ?_
    have kk := ((k3.trans k4).trans k5).trans k6
    have hnl : η.length < η2.length := (List.getElem?_eq_some_iff.mp e2).1
    have e6 : η6[η.length]? = some (.dK (encK ks)) := by rw [kk.eq _ hnl (by omega)]; exact e2
    obtain ⟨z, rfl, hz0, hz1⟩ : ∃ z : Int, y = .int z ∧ 0 ≤ z ∧ z ≤ 11 := by
      simp at hy
      rcases hy with rfl | rfl | rfl
      · exact ⟨_, rfl, by omega, by omega⟩
      · exact ⟨_, rfl, by omega, by omega⟩
      · exact ⟨_, rfl, by omega, by omega⟩
    simp
    rw [setK_at e6 (by omega)]
    obtain ⟨b1, b2, b3, b4⟩ := addK_ok (k := 1 + z) hn hr hl ⟨by omega, by omega⟩
    have hnl6 : η.length < η6.length := (List.getElem?_eq_some_iff.mp e6).1
    exact ⟨_, addK ks (1 + z), rfl, c6.keep (j := η.length) Keep.set (by omega), getset hnl6, b1, b2, b3, fun _ => b4⟩
  · rintro ρ η2 ⟨x4, ks, rfl, c2, e2, hn, hr, hl, hg⟩
    rw [Nat.zero_add, rng_length] at hl hg
    have hnl : η.length < η2.length := (List.getElem?_eq_some_iff.mp e2).1
    dsimp only
    rw [w_seq, w_sIf]
    simp [-w_seq]
    refine roll_ok.wp c2 (by decide) (by decide) fun r1 η3 a0 a1 c3 k3 => ?_
    have e3 : η3[η.length]? = some (.dK (encK ks)) := by rw [k3.eq _ hnl (by omega)]; exact e2
    have fin : ∀ (ks : List Int) (η4 : Store), η4[η.length]? = some (.dK (encK ks)) → ks.Nodup → (∀ x ∈ ks, 1 ≤ x ∧ x ≤ 12) → 1 ≤ ks.length → ks.length ≤ 4 → Cup 0 η4 →
        Q (.tup (cutL ((sortI ks).map D.int) none (some 12))) η4 := fun ks η4 e4 hn hr h1 h4 c4 => by
      have e12 : cutL ((sortI ks).map D.int) none (some 12) = ((sortI ks).map D.int).take 12 := cutL_to (n := 12)
      have hp := sortI_perm ks
      rw [e12, List.take_of_length_le (by rw [List.length_map, hp.length_eq]; omega)]
      exact q (sortI ks) η4 (fun x hx => hr x (hp.mem_iff.mp hx)) (rise_sort hn) (by rw [hp.length_eq]; exact h1) (by rw [hp.length_eq]; exact h4) c4
    simp
    by_cases hr1' : 0 < r1
    · simp [hr1']
      rw [setK_at e3 (by omega)]
      have hnl3 : η.length < η3.length := (List.getElem?_eq_some_iff.mp e3).1
      obtain ⟨b1, b2, b3, b4⟩ := addK_ok (k := 1) (m := 3) hn hr (by omega) ⟨by omega, by omega⟩
      simp
      rw [sortK_at (getset hnl3) (by omega)]
      simp
      exact fin _ _ (getset hnl3) b1 b2 b4 b3 (c3.keep (j := η.length) Keep.set (by omega))
    · simp [hr1']
      rw [sortK_at e3 (by omega)]
      simp
      exact fin _ _ e3 hn hr (hg (by omega)) (by omega) c3
end K96
namespace K96
open PySem PySem.Spec PyProof.Rows L2 Dn
open N97 (T Pay Lay addL subL sumIn chg keys rg has put addAll layF goF layersF Box POk ordsN ordStep inOrd heapStep heapsF good ded laterF rowsF servedL)
variable {η : Store}
/-! ### the law's payers -/
def P1 (c : T) (n : Int) (j : Nat) (ρ : Dn.Env) (η' : Store) : Prop :=
  ∃ x4 x5 x6 x7 ps, ρ = [some (.obj 0), some (tI c), some (.int n), some (psD ps), x4, x5, x6, x7] ∧ ps.length = j ∧ (∀ p ∈ ps, POk 2 c p) ∧ Cup 0 η'
/-- tuple([_law_some(cup, [..]) for value in coins]) -/
theorem given_comp {c : T} {ρ : Dn.Env} {i : Nat} {te : FE} {QL : List D → Store → Prop} {E : Ex → Store → Prop} {B : Int} (cu : Cup 0 η)
    (ht : ∀ x (η : Store) (QD : D → Store → Prop) (E : Ex → Store → Prop), Cup 0 η → (∀ y η', 0 ≤ y → y ≤ B → Cup 0 η' → QD (.int y) η') → wpR (te (ρ.set i (some x)) η) QD E)
    (q : ∀ g η', Box B c.length g → Cup 0 η' → QL (g.map D.int) η') : wpR (cmp (bN i) yes te ρ (c.map D.int) η) QL E := by
  refine w_cmp (fun j acc η' => Cup 0 η' ∧ ∃ g : T, acc = g.map D.int ∧ g.length = j ∧ ∀ x ∈ g, 0 ≤ x ∧ x ≤ B) _ 0 [] ⟨cu, [], rfl, rfl, fun _ h => nomatch h⟩ ?_ ?_
  · rintro j x hx acc η2 ⟨c2, g, rfl, hl, hg⟩
    rw [b_bN, wpO_some, w_yes]
    rw [if_pos rfl]
    refine ht x η2 _ _ c2 fun y η3 h0 h1 c3 => ?_
    refine ⟨c3, g ++ [y], by simp, by simp; omega, fun z hz => ?_⟩
    rcases List.mem_append.mp hz with w | w
    · exact hg z w
    · simp at w; subst w; exact ⟨h0, h1⟩
  · rintro ys η2 ⟨c2, g, e, hl, hg⟩
    rw [List.nil_append] at e
    subst e
    rw [Nat.zero_add, List.length_map] at hl
    exact q g η2 ⟨hl, hg⟩ c2
theorem payers_law {c : T} {n : Nat} (cu : Cup 0 η) (hn : n ≤ 5) (hc : ∀ x ∈ c, 1 ≤ x ∧ x ≤ 12) (hl : c.length ≤ 3) {Q : D → Store → Prop} {E : Ex → Store → Prop}
    (q : ∀ ps η', ps.length = n → (∀ p ∈ ps, POk 2 c p) → Cup 0 η' → Q (psD ps) η') : wpR (F__law_payers [.obj 0, tI c, .int n] η) Q E := by
  unfold F__law_payers b__law_payers
  rw [w_runF]
  rw [w_seq, w_asg]
  simp [-w_seq]
  rw [w_seq, w_for]
  simp [-w_seq]
  refine ⟨⟨by omega, by omega⟩, ?_⟩
  refine w_forL (P1 c n) _ 0 ⟨_, _, _, _, [], rfl, rfl, by simp, cu⟩ ?_ ?_
  · rintro j x hx ρ η2 ⟨x4, x5, x6, x7, ps, rfl, hps, hpo, c2⟩
    rw [Nat.zero_add] at hps ⊢
    have hj : j < n := by
      have := (List.getElem?_eq_some_iff.mp hx).1
      rwa [rng_length] at this
    rw [b_bN, wpO_some]
    unfold b__law_payers_1
    rw [w_seq, w_asg, w_eL, w_aCons, w_lc, w_iVal, w_gv]
    have es : ∀ η : Store, srcOf (tI c) η = some (.val (c.map D.int)) := fun _ => rfl
    simp [-w_seq, es, w_nx, cmpS]
    refine given_comp (B := 2) c2 (fun x η QD E cu ht => ?_) fun g η3 hg c3 => ?_
    · simp [wipeD]
      refine roll_ok.wp cu (by decide) (by decide) fun r η1 h0 h1 c1 k1 => ?_
      refine some_ok.wp c1 (by simp) (by simp) fun y η6 hy c6 k6 => ?_
      simp at hy
      rcases hy with rfl | rfl | rfl
      · exact ht 0 _ (by omega) (by omega) c6
      · exact ht 1 _ (by omega) (by omega) c6
      · exact ht r _ (by omega) (by omega) c6
    · have hgl := hg.1
      have eg : D.tup (g.map D.int) = tI g := rfl
      refine ⟨szle (by rw [List.length_map]; omega), ?_⟩
      rw [eg, w_seq, w_asg]
      simp [-w_seq]
      refine wpR_of (lawsum_ok hc (by omega)) ?_
      obtain ⟨s0, s1⟩ := N97.sum_le hc rfl hg
      have s2 : sumIn c g ≤ 72 := by omega
      simp
      refine roll_ok.wp c3 (by omega) (by omega) fun r η4 h0 h1 c4 k4 => ?_
      refine some_ok.wp c4 (by simp) (by simp) fun y η5 hy c5 k5 => ?_
      obtain ⟨z, rfl, hz⟩ : ∃ z : Int, y = .int z ∧ 0 ≤ z := by
        simp at hy
        rcases hy with rfl | rfl | rfl | rfl | rfl
        · exact ⟨_, rfl, by omega⟩
        · exact ⟨_, rfl, by omega⟩
        · exact ⟨_, rfl, by omega⟩
        · exact ⟨_, rfl, by omega⟩
        · exact ⟨_, rfl, by omega⟩
      have e7 : addD (psD ps) (.tup [.tup [.int (if z < sumIn c g then sumIn c g - z else 0), tI g]]) η5 = some (psD (ps ++ [((if z < sumIn c g then sumIn c g - z else 0), g)]), η5) := by
        show addD (.tup (ps.map pD)) _ η5 = _
        rw [addD_tup, if_pos (szle (by simp; omega))]
        simp [psD, pD]
      simp [e7]
      refine ⟨_, _, _, _, ps ++ [((if z < sumIn c g then sumIn c g - z else 0), g)], rfl, by simp [hps], fun p hp => ?_, c5⟩
      rcases List.mem_append.mp hp with w | w
      · exact hpo p w
      · simp at w
        subst w
        refine ⟨hg, ?_, ?_⟩
        · show 0 ≤ if z < sumIn c g then sumIn c g - z else 0
          split <;> omega
        · show (if z < sumIn c g then sumIn c g - z else 0) ≤ sumIn c g
          split <;> omega
  · rintro ρ η2 ⟨x4, x5, x6, x7, ps, rfl, hps, hpo, c2⟩
    rw [Nat.zero_add, rng_length] at hps
    simp
    exact q ps η2 (by omega) hpo c2
end K96
namespace K96
open PySem PySem.Spec PyProof.Rows L2 Dn
open N97 (T Pay Lay addL subL sumIn chg keys rg has put addAll layF goF layersF Box POk In)
variable {η : Store}
/-! ### what is no plan -/
def isInt : D → Bool
  | .int _ => true
  | _ => false
/-- items of a heap that may be told: whole numbers, truth values, None -/
def itOk : D → Bool
  | .int _ => true
  | .bl _ => true
  | .non => true
  | _ => false
theorem itOk_typ {d : D} (h : itOk d = true) : d.typ = true := by cases d <;> first | rfl | cases h
/-- what may be told as a part of a plan -/
def xOk : D → Bool
  | .tup ys => ys.all itOk && decide (ys.length ≤ 1000)
  | x => x.typ
theorem xOk_typ {d : D} (h : xOk d = true) : d.typ = true := by cases d <;> first | rfl | exact h
def vOk : D → Bool
  | .tup xs => xs.all xOk && decide (xs.length ≤ 1000)
  | x => x.typ
theorem vOk_typ {d : D} (h : vOk d = true) : d.typ = true := by cases d <;> first | rfl | exact h
instance instIn : ∀ t h : T, Decidable (In t h)
  | [], [] => isTrue trivial
  | m :: t, s :: h =>
    have := instIn t h
    (inferInstance : Decidable (0 ≤ s ∧ s ≤ m ∧ In t h))
  | [], _ :: _ => isFalse fun x => x
  | _ :: _, [] => isFalse fun x => x
def heapOf : D → Option T
  | .tup ys => intsOf ys
  | _ => none
def stepOk (c full h : T) (a : Int) : Bool := decide (h.length = c.length) && (decide (In full h) && decide (sumIn c h = a))
def planOk (c : T) : T → List Pay → List D → Bool
  | _, [], [] => true
  | now, p :: ps, x :: xs => match heapOf x with
    | some h => stepOk c (addL now p.2) h (sumIn c p.2 - p.1) && planOk c (subL (addL now p.2) h) ps xs
    | none => false
  | _, _, _ => false
def checkP (c t : T) (ps : List Pay) : D → Bool
  | .tup xs => planOk c t ps xs
  | _ => false
theorem tupof_not {d : D} {a : Ty} {lo hi : D} (h : tyOf d η = some a) (ha : a ≠ .tuple) : F_is_tuple_of [d, lo, hi] η = .ok (.bl false) η := by
  refine ok_of_wpR1 ?_
  unfold F_is_tuple_of b_is_tuple_of
  rw [w_runF]
  have e1 : isiD [d, .ty "tuple"] η = some (.bl (tyB a .tuple), η) := isi_of h rfl
  simp [e1]
  cases a <;> simp at ha ⊢
/-- a value's kind, as far as tuples go -/
def tupLen : D → Option Nat
  | .tup xs => some xs.length
  | _ => none
theorem tupof_any {d : D} {n : Nat} (h : d.typ = true) : F_is_tuple_of [d, .int n, .int n] η = .ok (.bl (decide (tupLen d = some n))) η := by
  cases d with
  | tup xs =>
    rw [tupof_tup]
    congr 2
    by_cases e : xs.length = n
    · subst e; simp [tupLen]
    · have e1 : ¬ (tupLen (.tup xs) = some n) := fun z => e (Option.some.inj z)
      rw [decide_eq_false e1]
      by_cases h1 : (n : Int) ≤ xs.length
      · have h2 : ¬ (xs.length : Int) ≤ n := by omega
        simp [h1, h2]
      · simp [h1]
  | obj i => cases h
  | gl x => cases h
  | ty x => cases h
  | adr x => cases h
  | _ => exact tupof_not (a := _) rfl (by decide)
def wholeIn (d : D) (lo hi : Int) : Bool := match d with
  | .int i => decide (lo ≤ i) && decide (i ≤ hi)
  | _ => false
theorem fits_not {d : D} {a : Ty} {lo hi : D} (h : tyOf d η = some a) (ha : a ≠ .int) : F_fits_whole [d, lo, hi] η = .ok (.bl false) η := by
  refine ok_of_wpR1 ?_
  unfold F_fits_whole b_fits_whole
  rw [w_runF]
  simp
  refine wpR_of (whole_ok h) ?_
  simp [ha]
theorem fits_any {d : D} {lo hi : Int} (h : itOk d = true) : F_fits_whole [d, .int lo, .int hi] η = .ok (.bl (wholeIn d lo hi)) η := by
  cases d with
  | int i => exact fits_int
  | bl b => exact fits_not (a := _) rfl (by decide)
  | non => exact fits_not (a := _) rfl (by decide)
  | _ => cases h
theorem all_whole : ∀ {ys : List D} {full : T}, ys.length = full.length → (((ys.zip full).all fun p => wholeIn p.1 0 p.2) = true ↔ ∃ h, intsOf ys = some h ∧ In full h)
  | [], [], _ => ⟨fun _ => ⟨[], rfl, trivial⟩, fun _ => rfl⟩
  | y :: ys, m :: full, hl => by
    have ih := all_whole (ys := ys) (full := full) (by simpa using hl)
    rw [List.zip_cons_cons, List.all_cons, Bool.and_eq_true, ih]
    cases y with
    | int i =>
      have e : intsOf (D.int i :: ys) = (intsOf ys).map (i :: ·) := rfl
      rw [e]
      constructor
      · rintro ⟨h1, h, h2, h3⟩
        have := Bool.and_eq_true_iff.mp h1
        exact ⟨i :: h, by rw [h2]; rfl, of_decide_eq_true this.1, of_decide_eq_true this.2, h3⟩
      · rintro ⟨h, h1, h2⟩
        cases e2 : intsOf ys with
        | none => rw [e2] at h1; cases h1
        | some r =>
          rw [e2] at h1; cases h1
          exact ⟨Bool.and_eq_true_iff.mpr ⟨decide_eq_true h2.1, decide_eq_true h2.2.1⟩, r, rfl, h2.2.2⟩
    | _ =>
      constructor
      · rintro ⟨h1, _⟩; cases h1
      · rintro ⟨h, h1, _⟩; cases h1
  | [], _ :: _, hl => by simp at hl
  | _ :: _, [], hl => by simp at hl
theorem ints_len : ∀ {ys : List D} {h : T}, intsOf ys = some h → ys = h.map D.int
  | [], h, e => by cases e; rfl
  | y :: ys, h, e => by
    cases y with
    | int i =>
      have e' : (intsOf ys).map (i :: ·) = some h := e
      cases e2 : intsOf ys with
      | none => rw [e2] at e'; cases e'
      | some r => rw [e2] at e'; cases e'; rw [ints_len e2]; rfl
    | _ => cases e
def FP (c t : T) (ps : List Pay) (xs : List D) (b : Bool) (η : Store) (j : Nat) (ρ : Dn.Env) (η' : Store) : Prop :=
  ∃ now x5 x6 x7 x8 x9 x10, ρ = [some (tI c), some (tI t), some (psD ps), some (.tup xs), some (tI now), x5, x6, x7, x8, x9, x10] ∧ η' = η ∧ now.length = c.length ∧ planOk c now (ps.drop j) (xs.drop j) = b
theorem fitsplan_ok {c t : T} {ps : List Pay} {v : D} (hc : COk c) (ht : t.length = c.length) (hp : ∀ p ∈ ps, p.2.length = c.length) (hl : ps.length ≤ 1000) (hv : vOk v = true) : F_fits_plan [tI c, tI t, psD ps, v] η = .ok (.bl (checkP c t ps v)) η := by
  refine ok_of_wpR1 ?_
  have hcl := hc.le
  unfold F_fits_plan b_fits_plan
  rw [w_runF]
  have elen : lenD [psD ps] η = some (.int ps.length, η) := by
    show lenD [.tup (ps.map pD)] η = _
    rw [lenD_tup, List.length_map]
  rw [w_seq, w_sIf]
  simp [-w_seq, elen]
  refine wpR_of (tupof_any (vOk_typ hv)) ?_
  cases v with
  | tup xs =>
    by_cases hxl : xs.length = ps.length
    case neg =>
      have e1 : ¬ (tupLen (.tup xs) = some ps.length) := fun z => hxl (Option.some.inj z)
      have e2 : ∀ (now : T) (ps : List Pay) (xs : List D), xs.length ≠ ps.length → planOk c now ps xs = false := by
        intro now ps
        induction ps generalizing now with
        | nil =>
          intro xs h
          cases xs with
          | nil => exact absurd rfl h
          | cons x xs => rfl
        | cons p ps ih =>
          intro xs h
          cases xs with
          | nil => rfl
          | cons x xs =>
            unfold planOk
            cases heapOf x with
            | none => rfl
            | some hh =>
              dsimp only
              rw [ih _ xs (by simpa using h), Bool.and_false]
      simp [e1, checkP, e2 t ps xs hxl]
    have e1 : tupLen (.tup xs) = some ps.length := by rw [← hxl]; rfl
    have hv' := Bool.and_eq_true_iff.mp hv
    simp [e1, -w_seq]
    rw [w_seq, w_asg]
    simp [-w_seq]
    rw [w_seq, w_for, w_iZip]
    have es : sqOf (psD ps) η = some (.val (ps.map pD)) := rfl
    simp [-w_seq, es]
    have ez : List.zipWith (fun x y => D.tup [x, y]) (ps.map pD) xs = (ps.zip xs).map fun q => D.tup [pD q.1, q.2] := by
      have := zip_maps pD id ps xs
      rw [List.map_id] at this
      exact this
    rw [ez]
    refine w_forL (FP c t ps xs (checkP c t ps (.tup xs)) η) _ 0 ⟨t, _, _, _, _, _, _, rfl, rfl, ht, rfl⟩ ?_ ?_
    · rintro j y hy ρ η' ⟨now, x5, x6, x7, x8, x9, x10, rfl, rfl, hnl, hpo⟩
      rw [Nat.zero_add] at hpo ⊢
      rw [List.getElem?_map] at hy
      cases ej : (ps.zip xs)[j]? with
      | none => rw [ej] at hy; cases hy
      | some q =>
        rw [ej] at hy
        cases hy
        have hmz := List.of_mem_zip (List.mem_of_getElem? ej)
        obtain ⟨hj1, hj2⟩ : ps[j]? = some q.1 ∧ xs[j]? = some q.2 := by
          rw [List.getElem?_zip_eq_some] at ej
          exact ej
        have d1 : ps.drop j = q.1 :: ps.drop (j + 1) := by
          rw [List.drop_eq_getElem_cons (List.getElem?_eq_some_iff.mp hj1).1, (List.getElem?_eq_some_iff.mp hj1).2]
        have d2 : xs.drop j = q.2 :: xs.drop (j + 1) := by
          rw [List.drop_eq_getElem_cons (List.getElem?_eq_some_iff.mp hj2).1, (List.getElem?_eq_some_iff.mp hj2).2]
        rw [d1, d2] at hpo
        unfold planOk at hpo
        have hx := List.all_eq_true.mp hv'.1 q.2 hmz.2
        have hgl := hp q.1 hmz.1
        have hfl : (addL now q.1.2).length = c.length := by rw [N97.addL_len (by rw [hnl, hgl]), hnl]
        show Dn.wpS (b_fits_plan_1 [some (tI c), some (tI t), some (psD ps), some (.tup xs), some (tI now), some (.int q.1.1), some (tI q.1.2), some q.2, x8, x9, x10] η') _
        unfold b_fits_plan_1
        rw [w_seq, w_asg]
        simp [-w_seq]
        refine wpR_of (given_ok (by omega)) ?_
        have elc : lenD [tI c] η' = some (.int c.length, η') := by
          show lenD [.tup (c.map D.int)] η' = _
          rw [lenD_tup, List.length_map]
        rw [w_seq, w_sIf]
        simp [-w_seq, elc]
        refine wpR_of (tupof_any (xOk_typ hx)) ?_
        generalize addL now q.1.2 = full at *
        cases hqx : q.2 with
        | tup ys =>
          rw [hqx] at hpo hx
          have hx' := Bool.and_eq_true_iff.mp hx
          by_cases hyl : ys.length = c.length
          case neg =>
            have e3 : ¬ (tupLen (.tup ys) = some c.length) := fun z => hyl (Option.some.inj z)
            have e4 : checkP c t ps (.tup xs) = false := by
              rw [← hpo]
              cases eh : heapOf (.tup ys) with
              | none => rfl
              | some hh =>
                have e5 := ints_len (show intsOf ys = some hh from eh)
                have e6 : hh.length ≠ c.length := fun z => hyl (by rw [e5, List.length_map]; exact z)
                simp [stepOk, e6]
            simp [e3, e4]
          have e3 : tupLen (.tup ys) = some c.length := by rw [← hyl]; rfl
          simp [e3, -w_seq]
          rw [w_seq, w_sIf]
          have esq : sqOf (tI full) η' = some (.val (full.map D.int)) := rfl
          simp [-w_seq, w_lc, w_nx, cmpS, esq]
          have ez2 : List.zipWith (fun x y => D.tup [x, y]) ys (full.map D.int) = (ys.zip full).map fun p => D.tup [p.1, .int p.2] := by
            have := zip_maps id D.int ys full
            rw [List.map_id] at this
            exact this
          rw [ez2]
          refine wpR_of (cmp_of (α := D × Int) (fun p => .tup [p.1, .int p.2]) (fun p => .bl (wholeIn p.1 0 p.2)) _ fun p hp => ⟨_, rfl, rfl, ok_of_wpR1 ?_⟩) ?_
          · simp [wipeD]
            exact wpR_of (fits_any (List.all_eq_true.mp hx'.1 p.1 (List.of_mem_zip hp).1)) ⟨rfl, rfl⟩
          refine ⟨szle (by rw [List.length_map, List.length_zip]; omega), ?_⟩
          rw [allD_lst, boolsOf_map]
          have hall := all_whole (ys := ys) (full := full) (by omega)
          have eall : ((ys.zip full).map fun p => wholeIn p.1 0 p.2).all id = (ys.zip full).all fun p => wholeIn p.1 0 p.2 := by
            rw [List.all_map]; rfl
          rw [Option.map_some, wpO_some, eall]
          dsimp only
          rw [truD_bl, wpO_some]
          by_cases hw : ((ys.zip full).all fun p => wholeIn p.1 0 p.2) = true
          case neg =>
            have e4 : checkP c t ps (.tup xs) = false := by
              rw [← hpo]
              cases eh : heapOf (.tup ys) with
              | none => rfl
              | some hh =>
                have e6 : ¬ In full hh := fun z => hw (hall.mpr ⟨hh, eh, z⟩)
                simp [stepOk, e6]
            rw [if_neg hw]
            exact ⟨e4, rfl⟩
          obtain ⟨hh, eh, hin⟩ := hall.mp hw
          have eys := ints_len eh
          have eti : D.tup ys = tI hh := by rw [eys]; rfl
          have ehp : heapOf (.tup ys) = some hh := eh
          rw [if_pos hw, eti, w_seq, w_sIf]
          have hhl : hh.length = c.length := by rw [← hyl, eys, List.length_map]
          rw [ehp] at hpo
          simp [-w_seq]
          refine wpR_of (sum_ok hc.rng (by omega)) ?_
          refine wpR_of (sum_ok hc.rng (by omega)) ?_
          simp [-w_seq]
          by_cases hs : sumIn c hh = sumIn c q.1.2 - q.1.1
          case neg =>
            have e4 : checkP c t ps (.tup xs) = false := by
              rw [← hpo]
              simp [stepOk, hs]
            simp [hs, e4]
          simp [hs]
          refine wpR_of (without_ok (by omega)) ?_
          refine ⟨subL full hh, _, _, _, _, _, _, rfl, rfl, ?_, ?_⟩
          · unfold subL
            rw [List.length_map, List.length_zip]
            omega
          · rw [← hpo]
            simp [stepOk, hhl, hin, hs]
        | obj i => rw [hqx] at hx; cases hx
        | gl x => rw [hqx] at hx; cases hx
        | ty x => rw [hqx] at hx; cases hx
        | adr x => rw [hqx] at hx; cases hx
        | _ =>
          rw [hqx] at hpo
          have e4 : checkP c t ps (.tup xs) = false := by rw [← hpo]; rfl
          simp [tupLen, e4]
    · rintro ρ η' ⟨now, x5, x6, x7, x8, x9, x10, rfl, rfl, hnl, hpo⟩
      rw [Nat.zero_add, List.length_map, List.length_zip, hxl, Nat.min_self, List.drop_length, List.drop_eq_nil_of_le (by omega)] at hpo
      simp
      rw [← hpo]; rfl
  | obj i => cases hv
  | gl x => cases hv
  | ty x => cases hv
  | adr x => cases hv
  | _ => simp [tupLen, checkP]
end K96
namespace K96
open PySem PySem.Spec PyProof.Rows L2 Dn
open N97 (T Pay Lay addL subL sumIn chg keys rg has put addAll layF goF layersF Box POk In)
variable {η : Store}
theorem ne_ones {α : Type} (l : List α) : neD (.lst (l.map fun _ => D.int 1)) (.lst []) η = some (.bl (!l.isEmpty), η) := by
  have e0 : (l.map fun _ => D.int 1) = (l.map fun _ => (1 : Int)).map D.int := by rw [List.map_map]; rfl
  have h1 : pd (.lst (l.map fun _ => D.int 1)) η = some (.list ((l.map fun _ => (1 : Int)).map .int)) := by
    show (pds0 (l.map fun _ => D.int 1)).map PyData.list = _
    rw [e0, pds0_ints]; rfl
  have h2 : pd (.lst []) η = some (.list []) := rfl
  have h4 : plainQ (.list ((l.map fun _ => (1 : Int)).map .int)) := by
    show (PyData.canLayAll0 ((l.map fun _ => (1 : Int)).map PyData.int) && decide (PyData.depth (.list ((l.map fun _ => (1 : Int)).map .int)) ≤ 64)) = true
    rw [plain_ints]
    have : PyData.depth (.list ((l.map fun _ => (1 : Int)).map .int)) = 1 := by
      simp only [PyData.depth, PySem.W.depth_ints]
    rw [this]; rfl
  unfold neD
  rw [h1, h2]
  dsimp only
  rw [if_pos ⟨h4, by show SeqAt.shaped (.list []) = true; rfl⟩]
  cases l with
  | nil => rfl
  | cons t r => simp [PyData.eqv, PyData.eqvAll]
theorem isi_it {d : D} (h : itOk d = true) : ∃ a b : Bool, isiD [d, .ty "int"] η = some (.bl a, η) ∧ isiD [d, .ty "bool"] η = some (.bl b, η) ∧ (!a || b) = !isInt d := by
  cases d with
  | int i => exact ⟨true, false, by simp, by simp, rfl⟩
  | bl i => exact ⟨true, true, by simp, by simp, rfl⟩
  | non => exact ⟨false, false, by simp, by simp, rfl⟩
  | _ => cases h
theorem noInts : ∀ {ys : List D}, (ys.filter fun y => !isInt y).isEmpty = true ↔ ∃ h, intsOf ys = some h
  | [] => ⟨fun _ => ⟨[], rfl⟩, fun _ => rfl⟩
  | y :: ys => by
    have ih := noInts (ys := ys)
    cases y with
    | int i =>
      have e : intsOf (D.int i :: ys) = (intsOf ys).map (i :: ·) := rfl
      rw [e, List.filter_cons_of_neg (by simp [isInt]), ih]
      constructor
      · rintro ⟨h, h1⟩; exact ⟨i :: h, by rw [h1]; rfl⟩
      · rintro ⟨h, h1⟩
        cases e2 : intsOf ys with
        | none => rw [e2] at h1; cases h1
        | some r => exact ⟨r, rfl⟩
    | _ =>
      constructor
      · intro h; rw [List.filter_cons_of_pos (by rfl)] at h; cases h
      · rintro ⟨h, h1⟩; cases h1
def offP (p : Int × Int) : Bool := decide (p.1 < 0) || decide (p.2 < p.1)
theorem offIn : ∀ {full h : T}, h.length = full.length → (((h.zip full).filter offP).isEmpty = true ↔ In full h)
  | [], [], _ => ⟨fun _ => trivial, fun _ => rfl⟩
  | m :: full, s :: h, hl => by
    have ih := offIn (full := full) (h := h) (by simpa using hl)
    rw [List.zip_cons_cons]
    by_cases hc : offP (s, m) = true
    · rw [List.filter_cons_of_pos hc]
      constructor
      · intro z; cases z
      · rintro ⟨a, b, _⟩
        unfold offP at hc
        simp at hc
        omega
    · rw [List.filter_cons_of_neg hc, ih]
      unfold offP at hc
      simp at hc
      exact ⟨fun z => ⟨by omega, by omega, z⟩, fun z => z.2.2⟩
  | [], _ :: _, hl => by simp at hl
  | _ :: _, [], hl => by simp at hl
def LP (c : T) (ps : List Pay) (xs : List D) (b : Bool) (η : Store) (j : Nat) (ρ : Dn.Env) (η' : Store) : Prop :=
  ∃ now x4 x5 x6 x7 x8 x9 x10, ρ = [some (tI c), some (tI now), some (psD ps), some (.tup xs), x4, x5, x6, x7, x8, x9, x10] ∧ η' = η ∧ now.length = c.length ∧ planOk c now (ps.drop j) (xs.drop j) = b
theorem planOk_len {c : T} : ∀ (ps : List Pay) (now : T) (xs : List D), xs.length ≠ ps.length → planOk c now ps xs = false
  | [], now, [], h => absurd rfl h
  | [], now, x :: xs, h => rfl
  | p :: ps, now, [], h => rfl
  | p :: ps, now, x :: xs, h => by
    unfold planOk
    cases heapOf x with
    | none => rfl
    | some hh =>
      dsimp only
      rw [planOk_len ps _ xs (by simpa using h), Bool.and_false]
theorem isi_tuple {d : D} (h : d.typ = true) : isiD [d, .ty "tuple"] η = some (.bl (tupLen d).isSome, η) := by
  cases d with
  | tup xs => simp [tupLen]
  | obj i => cases h
  | gl x => cases h
  | ty x => cases h
  | adr x => cases h
  | _ => simp [tupLen]
theorem lawplan_ok {c t : T} {ps : List Pay} {v : D} (hc : COk c) (ht : t.length = c.length) (hp : ∀ p ∈ ps, p.2.length = c.length) (hl : ps.length ≤ 1000) (hv : vOk v = true) : F__law_is_plan [tI c, tI t, psD ps, v] η = .ok (.bl (checkP c t ps v)) η := by
  refine ok_of_wpR1 ?_
  have hcl := hc.le
  unfold F__law_is_plan b__law_is_plan
  rw [w_runF]
  have elen : lenD [psD ps] η = some (.int ps.length, η) := by
    show lenD [.tup (ps.map pD)] η = _
    rw [lenD_tup, List.length_map]
  rw [w_seq, w_sIf]
  simp [-w_seq, elen, isi_tuple (vOk_typ hv)]
  cases v with
  | tup xs =>
    have hv' := Bool.and_eq_true_iff.mp hv
    simp [tupLen, -w_seq, elen]
    by_cases hxl : xs.length = ps.length
    case neg =>
      simp [hxl, checkP, planOk_len ps t xs hxl]
      intro z
      exact absurd (by omega) hxl
    simp [hxl, -w_seq]
    rw [w_seq, w_for, w_iZip]
    have es : sqOf (psD ps) η = some (.val (ps.map pD)) := rfl
    simp [-w_seq, es]
    have ez : List.zipWith (fun x y => D.tup [x, y]) (ps.map pD) xs = (ps.zip xs).map fun q => D.tup [pD q.1, q.2] := by
      have := zip_maps pD id ps xs
      rw [List.map_id] at this
      exact this
    rw [ez]
    refine w_forL (LP c ps xs (checkP c t ps (.tup xs)) η) _ 0 ⟨t, _, _, _, _, _, _, _, rfl, rfl, ht, rfl⟩ ?_ ?_
    · rintro j y hy ρ η' ⟨now, x4, x5, x6, x7, x8, x9, x10, rfl, rfl, hnl, hpo⟩
      rw [Nat.zero_add] at hpo ⊢
      rw [List.getElem?_map] at hy
      cases ej : (ps.zip xs)[j]? with
      | none => rw [ej] at hy; cases hy
      | some q =>
        rw [ej] at hy
        cases hy
        have hmz := List.of_mem_zip (List.mem_of_getElem? ej)
        obtain ⟨hj1, hj2⟩ : ps[j]? = some q.1 ∧ xs[j]? = some q.2 := by
          rw [List.getElem?_zip_eq_some] at ej
          exact ej
        have d1 : ps.drop j = q.1 :: ps.drop (j + 1) := by
          rw [List.drop_eq_getElem_cons (List.getElem?_eq_some_iff.mp hj1).1, (List.getElem?_eq_some_iff.mp hj1).2]
        have d2 : xs.drop j = q.2 :: xs.drop (j + 1) := by
          rw [List.drop_eq_getElem_cons (List.getElem?_eq_some_iff.mp hj2).1, (List.getElem?_eq_some_iff.mp hj2).2]
        rw [d1, d2] at hpo
        unfold planOk at hpo
        have hx := List.all_eq_true.mp hv'.1 q.2 hmz.2
        have hgl := hp q.1 hmz.1
        have hfl : (addL now q.1.2).length = c.length := by rw [N97.addL_len (by rw [hnl, hgl]), hnl]
        have elc : lenD [tI c] η' = some (.int c.length, η') := by
          show lenD [.tup (c.map D.int)] η' = _
          rw [lenD_tup, List.length_map]
        show Dn.wpS (b__law_is_plan_1 [some (tI c), some (tI now), some (psD ps), some (.tup xs), some (.int q.1.1), some (tI q.1.2), some q.2, x7, x8, x9, x10] η') _
        unfold b__law_is_plan_1
        rw [w_seq, w_sIf]
        simp [-w_seq, isi_tuple (xOk_typ hx)]
        cases hqx : q.2 with
        | tup ys =>
          rw [hqx] at hpo hx
          have hx' := Bool.and_eq_true_iff.mp hx
          have hyz : ys.length ≤ 1000 := of_decide_eq_true hx'.2
          simp [tupLen, -w_seq, elc]
          by_cases hyl : ys.length = c.length
          case neg =>
            have e4 : checkP c t ps (.tup xs) = false := by
              rw [← hpo]
              cases eh : heapOf (.tup ys) with
              | none => rfl
              | some hh =>
                have e5 := ints_len (show intsOf ys = some hh from eh)
                have e6 : hh.length ≠ c.length := fun z => hyl (by rw [e5, List.length_map]; exact z)
                simp [stepOk, e6]
            simp [hyl, e4]
            intro z
            exact absurd (by omega) hyl
          simp [hyl, -w_seq, w_lc, w_nx, cmpS]
          have em : ys = ys.map id := (List.map_id ys).symm
          have ec : cmp (bN 7) (orT (notT (tru (eL isiD (aCons (gv 7) (aCons (cst (.ty "int")) aNil))))) (tru (eL isiD (aCons (gv 7) (aCons (cst (.ty "bool")) aNil))))) (cst (.int 1)) (wipeD [some (tI c), some (tI now), some (psD ps), some (.tup xs), some (.int q.1.1), some (tI q.1.2), some (.tup ys), x7, x8, x9, x10] [7]) ys η' = .ok ((ys.filter fun y => !isInt y).map fun _ => D.int 1) η' := by
            have h0 := cmp_off (b := bN 7) (s := orT (notT (tru (eL isiD (aCons (gv 7) (aCons (cst (.ty "int")) aNil))))) (tru (eL isiD (aCons (gv 7) (aCons (cst (.ty "bool")) aNil))))) (te := cst (.int 1)) (ρ := wipeD [some (tI c), some (tI now), some (psD ps), some (.tup xs), some (.int q.1.1), some (tI q.1.2), some (.tup ys), x7, x8, x9, x10] [7]) (η := η') (α := D) id (fun _ => D.int 1) (fun y => !isInt y) ys fun y hy => ⟨_, rfl, ok_of_wpR1 (by
              obtain ⟨a, b, i1, i2, i3⟩ := isi_it (η := η') (List.all_eq_true.mp hx'.1 y hy)
              simp [wipeD, i1, i2]
              cases a <;> cases b <;> simp at i3 ⊢ <;> simp [i3]), fun _ => rfl⟩
            rw [List.map_id] at h0
            exact h0
          refine wpR_of ec ?_
          have hfil := List.length_filter_le (fun y => !isInt y) ys
          refine ⟨szle (by rw [List.length_map]; omega), ?_⟩
          rw [ne_ones]
          by_cases hint : (ys.filter fun y => !isInt y).isEmpty = true
          case neg =>
            have e4 : checkP c t ps (.tup xs) = false := by
              rw [← hpo]
              cases eh : heapOf (.tup ys) with
              | none => rfl
              | some hh => exact absurd (noInts.mpr ⟨hh, eh⟩) hint
            have hf : (ys.filter fun y => !isInt y).isEmpty = false := by simpa using hint
            simp [hf, e4]
          obtain ⟨hh, eh⟩ := noInts.mp hint
          have eys := ints_len eh
          have eti : D.tup ys = tI hh := by rw [eys]; rfl
          have ehp : heapOf (.tup ys) = some hh := eh
          have hhl : hh.length = c.length := by rw [← hyl, eys, List.length_map]
          rw [ehp] at hpo
          rw [eti]
          simp [hint, -w_seq]
          have esn : sqOf (tI now) η' = some (.val (now.map D.int)) := rfl
          have esg : sqOf (tI q.1.2) η' = some (.val (q.1.2.map D.int)) := rfl
          have esh : sqOf (tI hh) η' = some (.val (hh.map D.int)) := rfl
          rw [w_seq, w_asg]
          simp [-w_seq, w_lc, w_nx, cmpS, esn, esg]
          refine wpR_of (comp2 (i := 7) (j := 9) (f := fun x y => x + y) ?_ ?_ (by decide) fun x y η => rfl) ?_
          · simp [wipeD]
          · simp [wipeD]
          have efull : ((now.zip q.1.2).map fun p => D.int (p.1 + p.2)) = (addL now q.1.2).map D.int := by simp [addL]
          rw [efull]
          generalize addL now q.1.2 = full at *
          refine ⟨szle (by rw [List.length_map]; omega), ?_⟩
          rw [w_seq, w_sIf]
          simp [-w_seq, w_lc, w_nx, cmpS, esh]
          rw [zw_zip]
          refine wpR_of (cmp_off (α := Int × Int) (fun p => .tup [.int p.1, .int p.2]) (fun _ => .int 1) offP _ fun p hp => ⟨_, rfl, ok_of_wpR1 ?_, fun _ => rfl⟩) ?_
          · simp [wipeD, offP]
            by_cases hz : p.1 < 0
            · rw [if_pos hz]; exact .inl hz
            · rw [if_neg hz]; exact fun z => absurd z hz
          have hfil2 := List.length_filter_le offP (hh.zip full)
          rw [List.length_zip] at hfil2
          refine ⟨szle (by rw [List.length_map]; omega), ?_⟩
          rw [ne_ones]
          have hoff := offIn (full := full) (h := hh) (by omega)
          by_cases ho : ((hh.zip full).filter offP).isEmpty = true
          case neg =>
            have e4 : checkP c t ps (.tup xs) = false := by
              rw [← hpo]
              have e6 : ¬ In full hh := fun z => ho (hoff.mpr z)
              simp [stepOk, e6]
            have hf : ((hh.zip full).filter offP).isEmpty = false := by simpa using ho
            simp [hf, e4]
          have hin := hoff.mp ho
          simp [ho, -w_seq]
          refine wpR_of (lawsum_ok hc.rng (by omega)) ?_
          simp [-w_seq]
          refine wpR_of (lawsum_ok hc.rng (by omega)) ?_
          simp [-w_seq]
          by_cases hs : sumIn c hh = sumIn c q.1.2 - q.1.1
          case neg =>
            have e4 : checkP c t ps (.tup xs) = false := by
              rw [← hpo]
              simp [stepOk, hs]
            have hs' : ¬ (sumIn c hh + q.1.1 = sumIn c q.1.2) := by omega
            simp [hs', e4]
          have hs' : sumIn c hh + q.1.1 = sumIn c q.1.2 := by omega
          simp [hs', w_lc, w_nx, cmpS, esh]
          refine wpR_of (comp2 (i := 7) (j := 9) (f := fun x y => x - y) ?_ ?_ (by decide) fun x y η => rfl) ?_
          · simp [wipeD]
          · simp [wipeD]
          have efull2 : D.tup ((full.zip hh).map fun p => D.int (p.1 - p.2)) = tI (subL full hh) := by simp [subL, tI]
          refine ⟨szle (by rw [List.length_map, List.length_zip]; omega), ?_⟩
          rw [efull2]
          refine ⟨subL full hh, _, _, _, _, _, _, _, rfl, rfl, ?_, ?_⟩
          · unfold subL
            rw [List.length_map, List.length_zip]
            omega
          · rw [← hpo]
            simp [stepOk, hhl, hin, hs]
        | obj i => rw [hqx] at hx; cases hx
        | gl x => rw [hqx] at hx; cases hx
        | ty x => rw [hqx] at hx; cases hx
        | adr x => rw [hqx] at hx; cases hx
        | _ =>
          rw [hqx] at hpo
          have e4 : checkP c t ps (.tup xs) = false := by rw [← hpo]; rfl
          simp [tupLen, e4]
    · rintro ρ η' ⟨now, x4, x5, x6, x7, x8, x9, x10, rfl, rfl, hnl, hpo⟩
      rw [Nat.zero_add, List.length_map, List.length_zip, hxl, Nat.min_self, List.drop_length, List.drop_eq_nil_of_le (by omega)] at hpo
      simp
      rw [← hpo]; rfl
  | obj i => cases hv
  | gl x => cases hv
  | ty x => cases hv
  | adr x => cases hv
  | _ => simp [tupLen, checkP]
end K96
namespace K96
open PySem PySem.Spec PyProof.Rows L2 Dn
open N97 (T Pay Lay addL subL sumIn chg keys rg has put addAll layF goF layersF Box POk In)
variable {η : Store}
/-! ### the plan is one -/
def Valid (c : T) : T → List Pay → List T → Prop
  | _, [], [] => True
  | now, p :: ps, h :: pl => (h.length = c.length ∧ In (addL now p.2) h ∧ sumIn c h = sumIn c p.2 - p.1) ∧ Valid c (subL (addL now p.2) h) ps pl
  | _, _, _ => False
def endT : T → List Pay → List T → T
  | now, p :: ps, h :: pl => endT (subL (addL now p.2) h) ps pl
  | now, _, _ => now
theorem valid_snoc {c : T} {p : Pay} {h : T} : ∀ {ps : List Pay} {pl : List T} {now : T}, Valid c now ps pl → (h.length = c.length ∧ In (addL (endT now ps pl) p.2) h ∧ sumIn c h = sumIn c p.2 - p.1) →
    Valid c now (ps ++ [p]) (pl ++ [h]) ∧ endT now (ps ++ [p]) (pl ++ [h]) = subL (addL (endT now ps pl) p.2) h
  | [], [], now, _, s => ⟨⟨s, trivial⟩, rfl⟩
  | q :: ps, g :: pl, now, v, s => by
    obtain ⟨v1, v2⟩ := v
    obtain ⟨a, b⟩ := valid_snoc v2 s
    exact ⟨⟨v1, a⟩, b⟩
  | [], _ :: _, _, v, _ => v.elim
  | _ :: _, [], _, v, _ => v.elim
theorem valid_len {c : T} : ∀ {ps : List Pay} {pl : List T} {now : T}, Valid c now ps pl → pl.length = ps.length
  | [], [], _, _ => rfl
  | p :: ps, h :: pl, _, v => by simp [valid_len v.2]
  | [], _ :: _, _, v => v.elim
  | _ :: _, [], _, v => v.elim
theorem heapOf_tI (h : T) : heapOf (tI h) = some h := by
  show intsOf (h.map D.int) = _
  exact Dn.ints_map h
theorem valid_ok {c : T} : ∀ {ps : List Pay} {pl : List T} {now : T}, Valid c now ps pl → planOk c now ps (pl.map tI) = true
  | [], [], _, _ => rfl
  | p :: ps, h :: pl, now, v => by
    obtain ⟨⟨a, b, d⟩, v2⟩ := v
    rw [List.map_cons]
    unfold planOk
    rw [heapOf_tI]
    dsimp only
    rw [valid_ok v2]
    simp [stepOk, a, b, d]
  | [], _ :: _, _, v => v.elim
  | _ :: _, [], _, v => v.elim
def Gd (c : T) (p : Pay) (prev L : Lay) : Prop := ∀ q ∈ L, ∃ now ch, q.2 = some (now, ch) ∧ now ∈ keys prev ∧ ch ∈ chg c (addL now p.2) (sumIn c p.2 - p.1) ∧ q.1 = subL (addL now p.2) ch
theorem put_mem {l : Lay} {k : T} {v : T × T} {q : T × Option (T × T)} (h : q ∈ put l k v) : q ∈ l ∨ q = (k, some v) := by
  unfold put at h
  split at h
  · exact .inl h
  · simpa using h
theorem addAll_mem {now full : T} : ∀ {cs : List T} {l : Lay} {q : T × Option (T × T)}, q ∈ addAll now full cs l → q ∈ l ∨ ∃ ch ∈ cs, q = (subL full ch, some (now, ch))
  | [], l, q, h => .inl h
  | c :: r, l, q, h => by
    rcases addAll_mem (cs := r) h with z | ⟨ch, hc, e⟩
    · rcases put_mem z with w | w
      · exact .inl w
      · exact .inr ⟨c, List.mem_cons_self, w⟩
    · exact .inr ⟨ch, List.mem_cons_of_mem _ hc, e⟩
theorem layF_mem {c : T} {p : Int} {g : T} : ∀ {prev : List T} {l : Lay} {q : T × Option (T × T)}, q ∈ layF c p g prev l → q ∈ l ∨ ∃ now ∈ prev, ∃ ch ∈ chg c (addL now g) (sumIn c g - p), q = (subL (addL now g) ch, some (now, ch))
  | [], l, q, h => .inl h
  | n :: r, l, q, h => by
    rcases layF_mem (prev := r) h with z | ⟨now, hn, ch, hc, e⟩
    · rcases addAll_mem z with w | ⟨ch, hc, e⟩
      · exact .inl w
      · exact .inr ⟨n, List.mem_cons_self, ch, hc, e⟩
    · exact .inr ⟨now, List.mem_cons_of_mem _ hn, ch, hc, e⟩
theorem lay_gd {c : T} {p : Pay} {prev : Lay} : Gd c p prev (layF c p.1 p.2 (keys prev) []) := by
  intro q hq
  rcases layF_mem hq with z | ⟨now, hn, ch, hc, rfl⟩
  · cases z
  · exact ⟨now, ch, rfl, hn, hc, rfl⟩
def topL (L0 : Lay) : List (Pay × Lay) → Lay
  | [] => L0
  | x :: _ => x.2
def RCh (c : T) (L0 : Lay) : List (Pay × Lay) → Prop
  | [] => True
  | x :: r => Gd c x.1 (topL L0 r) x.2 ∧ RCh c L0 r
theorem go_chain {c : T} {L0 : Lay} : ∀ (ps : List Pay) (r : List (Pay × Lay)), RCh c L0 r →
    ∃ r', goF c ps (topL L0 r) (L0 :: (r.map (·.2)).reverse) = L0 :: (r'.map (·.2)).reverse ∧ RCh c L0 r' ∧ ((r'.length = r.length + ps.length) → (r'.map (·.1)).reverse = (r.map (·.1)).reverse ++ ps) ∧ ∀ x ∈ r', x ∈ r ∨ x.1 ∈ ps
  | [], r, h => ⟨r, rfl, h, fun _ => by simp, fun x hx => .inl hx⟩
  | p :: ps, r, h => by
    unfold goF
    by_cases hl : layF c p.1 p.2 (keys (topL L0 r)) [] = []
    · rw [if_pos hl]
      exact ⟨r, rfl, h, fun e => by simp at e, fun x hx => .inl hx⟩
    · rw [if_neg hl]
      obtain ⟨r', e1, e2, e3, e4⟩ := go_chain ps ((p, layF c p.1 p.2 (keys (topL L0 r)) []) :: r) ⟨lay_gd, h⟩
      refine ⟨r', ?_, e2, fun e => ?_, fun x hx => ?_⟩
      · rw [← e1]
        show _ = goF c ps (layF c p.1 p.2 (keys (topL L0 r)) []) _
        simp
      · rw [e3 (by simp at e ⊢; omega)]
        simp
      · rcases e4 x hx with q | q
        · rcases List.mem_cons.mp q with rfl | q
          · exact .inr List.mem_cons_self
          · exact .inl q
        · exact .inr (List.mem_cons_of_mem _ q)
theorem look_gd {c : T} {p : Pay} {prev L : Lay} (h : Gd c p prev L) {m : T} (hm : m ∈ keys L) : ∃ now ch, look L m = some (now, ch) ∧ now ∈ keys prev ∧ ch ∈ chg c (addL now p.2) (sumIn c p.2 - p.1) ∧ m = subL (addL now p.2) ch := by
  cases ef : L.find? fun q => decide (q.1 = m) with
  | none =>
    obtain ⟨q, hq, e⟩ := List.mem_map.mp hm
    have := List.find?_eq_none.mp ef q hq
    simp [e] at this
  | some q =>
    have h1 := List.mem_of_find?_eq_some ef
    have h2 : q.1 = m := by simpa using List.find?_some ef
    obtain ⟨now, ch, e1, e2, e3, e4⟩ := h q h1
    refine ⟨now, ch, ?_, e2, e3, by rw [← h2]; exact e4⟩
    unfold look
    rw [ef]
    exact e1
theorem plan_chain {c : T} {L0 : Lay} (hc : ∀ v ∈ c, 0 < v) {G : Int} (hL : ∀ k ∈ keys L0, k.length = c.length) : ∀ (r : List (Pay × Lay)), RCh c L0 r → (∀ x ∈ r, POk G c x.1) → ∀ m ∈ keys (topL L0 r), m.length = c.length ∧ ∀ found,
    ∃ pl t0, t0 ∈ keys L0 ∧ planGo (r.map (·.2)) m found = some (pl ++ found) ∧ Valid c t0 (r.map (·.1)).reverse pl ∧ endT t0 (r.map (·.1)).reverse pl = m
  | [], _, _, m, hm => ⟨hL m hm, fun found => ⟨[], m, hm, rfl, trivial, rfl⟩⟩
  | x :: r, h, hp, m, hm => by
    obtain ⟨h1, h2⟩ := h
    have hpx := hp x List.mem_cons_self
    obtain ⟨now, ch, e1, e2, e3, e4⟩ := look_gd h1 hm
    obtain ⟨hnl, ih⟩ := plan_chain hc hL r h2 (fun y hy => hp y (List.mem_cons_of_mem _ hy)) now e2
    have hlen : c.length = (addL now x.1.2).length := by rw [N97.addL_len (by rw [hnl, hpx.1.1]), hnl]
    have hch := (N97.mem_chg hc hlen (by have := hpx.2.2; omega)).mp e3
    have hchl : ch.length = c.length := by rw [N97.In_len hch.1, ← hlen]
    refine ⟨?_, fun found => ?_⟩
    · rw [e4]
      unfold subL
      rw [List.length_map, List.length_zip, hchl, ← hlen]; omega
    · obtain ⟨pl, t0, a1, a2, a3, a4⟩ := ih (ch :: found)
      obtain ⟨b1, b2⟩ := valid_snoc (p := x.1) (h := ch) a3 (by rw [a4]; exact ⟨hchl, hch.1, hch.2⟩)
      refine ⟨pl ++ [ch], t0, a1, ?_, ?_, ?_⟩
      · show ((look x.2 m).bind fun q => planGo (r.map (·.2)) q.1 (q.2 :: found)) = _
        rw [e1]
        show planGo (r.map (·.2)) now (ch :: found) = _
        rw [a2]; simp
      · rw [List.map_cons, List.reverse_cons]; exact b1
      · rw [List.map_cons, List.reverse_cons, b2, a4, e4]
/-- when all are served, the plan is one, and leads to the till it starts from -/
theorem plan_valid {c t : T} {ps : List Pay} {G : Int} (hc : ∀ v ∈ c, 0 < v) (ht : t.length = c.length) (hp : ∀ p ∈ ps, POk G c p) (hlen : (layersF c t ps).length = ps.length + 1) {last : Lay} (hl : (layersF c t ps).getLast? = some last) {m : T} (hm : m ∈ keys last) :
    ∃ pl, planGo (layersF c t ps).tail.reverse m [] = some pl ∧ Valid c t ps pl ∧ endT t ps pl = m := by
  obtain ⟨r, e1, e2, e3, _⟩ := go_chain (c := c) (L0 := [(t, none)]) ps [] trivial
  have e1' : layersF c t ps = [(t, none)] :: (r.map (·.2)).reverse := e1
  rw [e1'] at hlen hl
  have hrl : r.length = ps.length := by simp at hlen; exact hlen
  have e4 := e3 (by simp [hrl])
  simp at e4
  have etop : topL [(t, none)] r = last := by
    cases r with
    | nil => simpa [topL] using hl
    | cons x r =>
      rw [List.map_cons, List.reverse_cons, ← List.cons_append, List.getLast?_concat] at hl
      exact Option.some.inj hl
  obtain ⟨_, h5⟩ := plan_chain (c := c) (L0 := [(t, none)]) (G := G) hc (fun k hk => by simp [keys] at hk; subst hk; exact ht) r e2 (fun x hx => hp x.1 (by
    rw [← e4]
    simp
    exact ⟨x.2, hx⟩)) m (by rw [etop]; exact hm)
  obtain ⟨pl, t0, a1, a2, a3, a4⟩ := h5 []
  have et : t0 = t := by simpa [keys] using a1
  subst et
  have e5 : (r.map (·.1)).reverse = ps := by simpa using e4
  rw [e5] at a3 a4
  refine ⟨pl, ?_, a3, a4⟩
  rw [e1', List.tail_cons, List.reverse_reverse, a2]
  simp
end K96
namespace K96
open PySem PySem.Spec PyProof.Rows L2 Dn
open N97 (T Pay Lay addL subL sumIn chg keys rg has put addAll layF goF layersF Box POk In)
variable {η : Store}
theorem isplan_ok {c t : T} {ps : List Pay} {v : D} (hq : QOk c t ps) (hv : vOk v = true) : F_is_plan [tI c, tI t, psD ps, v] η = .ok (.bl (checkP c t ps v)) η := by
  refine ok_of_wpR1 ?_
  unfold F_is_plan b_is_plan
  rw [w_runF]
  simp
  refine wpR_of (needq_ok hq) ?_
  exact wpR_of (fitsplan_ok hq.ck hq.tl (fun p hp => (hq.pk p hp).len) (by have := hq.pl; omega) hv) ⟨rfl, rfl⟩
theorem xOk_tI {h : T} (hl : h.length ≤ 1000) : xOk (tI h) = true := by
  show ((h.map D.int).all itOk && decide ((h.map D.int).length ≤ 1000)) = true
  have h1 : (h.map D.int).all itOk = true := by
    refine List.all_eq_true.mpr fun d hd => ?_
    obtain ⟨x, _, rfl⟩ := List.mem_map.mp hd
    rfl
  rw [h1]
  simpa using hl
theorem vOk_pl {pl : List T} (h : ∀ x ∈ pl, x.length ≤ 1000) (hl : pl.length ≤ 1000) : vOk (.tup (pl.map tI)) = true := by
  show ((pl.map tI).all xOk && decide ((pl.map tI).length ≤ 1000)) = true
  have h1 : (pl.map tI).all xOk = true := by
    refine List.all_eq_true.mpr fun d hd => ?_
    obtain ⟨x, hx, rfl⟩ := List.mem_map.mp hd
    exact xOk_tI (h x hx)
  rw [h1]
  simpa using hl
theorem valid_mem {c : T} : ∀ {ps : List Pay} {pl : List T} {now : T}, Valid c now ps pl → ∀ x ∈ pl, x.length = c.length
  | [], [], _, _, x, h => nomatch h
  | p :: ps, g :: pl, now, v, x, h => by
    rcases List.mem_cons.mp h with rfl | h
    · exact v.1.1
    · exact valid_mem v.2 x h
  | [], _ :: _, _, v, _, _ => v.elim
  | _ :: _, [], _, v, _, _ => v.elim
def BH (c t : T) (ps : List Pay) (pl : List T) (e : T) (η : Store) (j : Nat) (ρ : Dn.Env) (η' : Store) : Prop :=
  ∃ now x5 x6 x7, ρ = [some (tI c), some (tI t), some (psD ps), some (.tup (pl.map tI)), some (tI now), x5, x6, x7] ∧ η' = η ∧ now.length = c.length ∧ endT now (ps.drop j) (pl.drop j) = e
theorem behind_ok {c t : T} {ps : List Pay} {pl : List T} (hq : QOk c t ps) (hv : Valid c t ps pl) : F_till_behind [tI c, tI t, psD ps, .tup (pl.map tI)] η = .ok (tI (endT t ps pl)) η := by
  refine ok_of_wpR1 ?_
  have hcl := hq.ck.le
  have hpl := hq.pl
  have hlen := valid_len hv
  have hvo : vOk (.tup (pl.map tI)) = true := vOk_pl (fun x hx => by have := valid_mem hv x hx; omega) (by omega)
  unfold F_till_behind b_till_behind
  rw [w_runF]
  rw [w_seq, w_exp]
  simp [-w_seq]
  refine wpR_of (needq_ok hq) ?_
  rw [w_seq, w_sIf]
  simp [-w_seq]
  refine wpR_of (fitsplan_ok hq.ck hq.tl (fun p hp => (hq.pk p hp).len) (by omega) hvo) ?_
  have e1 : checkP c t ps (.tup (pl.map tI)) = true := valid_ok hv
  simp [e1, -w_seq]
  rw [w_seq, w_asg]
  simp [-w_seq]
  rw [w_seq, w_for, w_iZip]
  have es : sqOf (psD ps) η = some (.val (ps.map pD)) := rfl
  simp only [w_aCons, w_aNil, w_gv, List.getElem?_cons_zero, List.getElem?_cons_succ, wpO_some, twoD_two, es, sqOf_tup, zipS_val]
  rw [zip_maps]
  refine w_forL (BH c t ps pl (endT t ps pl) η) _ 0 ⟨t, _, _, _, rfl, rfl, hq.tl, rfl⟩ ?_ ?_
  · rintro j y hy ρ η' ⟨now, x5, x6, x7, rfl, rfl, hnl, he⟩
    rw [Nat.zero_add] at he ⊢
    rw [List.getElem?_map] at hy
    cases ej : (ps.zip pl)[j]? with
    | none => rw [ej] at hy; cases hy
    | some q =>
      rw [ej] at hy
      cases hy
      have hmz := List.of_mem_zip (List.mem_of_getElem? ej)
      obtain ⟨hj1, hj2⟩ : ps[j]? = some q.1 ∧ pl[j]? = some q.2 := by
        rw [List.getElem?_zip_eq_some] at ej
        exact ej
      have d1 : ps.drop j = q.1 :: ps.drop (j + 1) := by
        rw [List.drop_eq_getElem_cons (List.getElem?_eq_some_iff.mp hj1).1, (List.getElem?_eq_some_iff.mp hj1).2]
      have d2 : pl.drop j = q.2 :: pl.drop (j + 1) := by
        rw [List.drop_eq_getElem_cons (List.getElem?_eq_some_iff.mp hj2).1, (List.getElem?_eq_some_iff.mp hj2).2]
      rw [d1, d2] at he
      have hgl := (hq.pk q.1 hmz.1).len
      have hhl := valid_mem hv q.2 hmz.2
      have hfl : (addL now q.1.2).length = c.length := by rw [N97.addL_len (by rw [hnl, hgl]), hnl]
      show Dn.wpS (b_till_behind_1 [some (tI c), some (tI t), some (psD ps), some (.tup (pl.map tI)), some (tI now), some (.int q.1.1), some (tI q.1.2), some (tI q.2)] η') _
      unfold b_till_behind_1
      simp
      refine wpR_of (given_ok (by omega)) ?_
      refine wpR_of (without_ok (by omega)) ?_
      refine ⟨subL (addL now q.1.2) q.2, _, _, _, rfl, rfl, ?_, he⟩
      unfold subL
      rw [List.length_map, List.length_zip]
      omega
  · rintro ρ η' ⟨now, x5, x6, x7, rfl, rfl, hnl, he⟩
    rw [Nat.zero_add, List.length_map, List.length_zip, hlen, Nat.min_self, List.drop_length] at he
    simp
    have e2 : endT now [] (pl.drop ps.length) = now := by
      cases pl.drop ps.length <;> rfl
    rw [e2] at he
    rw [he]
theorem lenX_list {k : Nat} {xs : List D} (h : η[k]? = some (.lst xs)) : lenX [.obj k] η = some (.int xs.length, η) := by
  have e : lenX [.obj k] η = lenD [.obj k] η := by
    unfold lenX
    dsimp only
    rw [h]
  rw [e]
  exact lenD_obj h
theorem tillsmany_ok {c t : T} {ps : List Pay} {M G : Int} {last : Lay} (hq : QOk c t ps) (h : Qk c t ps M G) (hlast : (layersF c t ps).getLast? = some last) :
    F_tills_many [tI c, tI t, psD ps] η = .ok (.int (if ps.length < (layersF c t ps).length then (last.length : Int) else 0)) η := by
  unfold F_tills_many
  refine (fun w : wpR (runF 4 b_tills_many [tI c, tI t, psD ps] η) (fun d η' => d = .int (if ps.length < (layersF c t ps).length then (last.length : Int) else 0) ∧ ∃ l, η' = η ++ l) (fun _ _ => False) => ?_) ?_
  · obtain ⟨d, η', e, rfl, l, rfl⟩ := ok_of_wpR w
    exact trim_ok e rfl
  have elen : ∀ η : Store, lenX [psD ps] η = some (.int ps.length, η) := fun η => by
    show lenD [.tup (ps.map pD)] η = _
    rw [lenD_tup, List.length_map]
  unfold b_tills_many
  rw [w_runF]
  rw [w_seq, w_exp]
  simp [-w_seq]
  refine wpR_of (needq_ok hq) ?_
  rw [w_seq, w_asg]
  simp [-w_seq]
  obtain ⟨l, e, hL⟩ := layers_ok (η := η) h
  refine wpR_of e ?_
  obtain ⟨refs, h1, h2, h3⟩ := hL
  obtain ⟨rl, erl⟩ : ∃ rl, refs.getLast? = some rl := by
    cases e : refs.getLast? with
    | none =>
      have := List.getLast?_eq_none_iff.mp e
      rw [this] at h2
      have : layersF c t ps = [] := List.length_eq_zero_iff.mp h2.symm
      rw [this] at hlast; cases hlast
    | some r => exact ⟨r, rfl⟩
  have hd : (η ++ l)[rl]? = some (.dT (encL last)) := by
    refine h3 (refs.length - 1) rl last ?_ ?_
    · rw [← List.getLast?_eq_getElem?]; exact erl
    · rw [h2, ← List.getLast?_eq_getElem?]; exact hlast
  have el := lenX_list h1
  rw [List.length_map, h2] at el
  have eix : ixX (.obj (η.length + 1)) (.int (-1)) (η ++ l) = some (.obj rl, η ++ l) := by
    have hne : refs ≠ [] := fun e => by rw [e] at erl; cases erl
    have e0 : dget (.obj (η.length + 1)) (.int (-1)) (η ++ l) = none := by
      unfold dget
      dsimp only
      rw [h1]
    unfold ixX
    rw [e0]
    show ixD (.obj (η.length + 1)) (.int (-1)) _ = _
    rw [ixD_obj h1, atI_last (by simpa using hne), List.getLast_map]
    rw [List.getLast?_eq_some_getLast hne] at erl
    rw [Option.some.inj erl]; rfl
  rw [el, wpO_some]
  dsimp only
  rw [elen, wpO_some]
  dsimp only
  have eg : gtI (.int ((layersF c t ps).length : Nat)) (.int (ps.length : Nat)) (η ++ l) = some (.bl (decide (((layersF c t ps).length : Int) > (ps.length : Int))), η ++ l) := rfl
  rw [eg, wpO_some]
  dsimp only
  rw [isB_bl, wpO_some]
  by_cases hk : ps.length < (layersF c t ps).length
  · have hk' : decide (((layersF c t ps).length : Int) > (ps.length : Int)) = true := decide_eq_true (by omega)
    rw [hk', if_pos rfl, eix, wpO_some]
    dsimp only
    rw [len_at hd, wpO_some, if_pos hk]
    exact ⟨rfl, l, rfl⟩
  · have hk' : decide (((layersF c t ps).length : Int) > (ps.length : Int)) = false := decide_eq_false (by omega)
    rw [hk']
    simp
    exact fun z => absurd z hk
end K96
namespace K96
open PySem PySem.Spec PyProof.Rows L2 Dn
open N97 (T Pay Lay addL subL sumIn chg keys rg has put addAll layF goF layersF Box POk In rowsF servedL)
variable {η : Store}
structure Dr (c t : T) (ps : List Pay) : Prop where
  ck : COk c
  tb : Box 2 c.length t
  pk : ∀ p ∈ ps, POk 2 c p
  pl : ps.length ≤ 4
theorem Dr.pos {c t : T} {ps : List Pay} (h : Dr c t ps) : ∀ v ∈ c, 0 < v := fun v hv => by have := (h.ck.rng v hv).1; omega
theorem Dr.pay {c t : T} {ps : List Pay} (h : Dr c t ps) {p : Pay} (hp : p ∈ ps) : PayOk c p := by
  obtain ⟨a, b, d⟩ := h.pk p hp
  obtain ⟨s0, s1⟩ := N97.sum_le h.ck.rng rfl a
  have hl := h.ck.le
  exact ⟨a.1, fun x hx => ⟨(a.2 x hx).1, by have := (a.2 x hx).2; omega⟩, b, by omega, d⟩
theorem Dr.q {c t : T} {ps : List Pay} (h : Dr c t ps) : QOk c t ps :=
  ⟨h.ck, h.tb.1, fun x hx => ⟨(h.tb.2 x hx).1, by have := (h.tb.2 x hx).2; omega⟩, fun p hp => h.pay hp, by have := h.pl; omega⟩
theorem Dr.k {c t : T} {ps : List Pay} (h : Dr c t ps) : Qk c t ps 2 2 := by
  have hl := h.pl
  refine ⟨h.ck.rng, h.ck.le, h.tb, h.pk, by omega, by omega, by omega, ?_, by omega⟩
  have h1 : (2 + 2 * (ps.length : Int) + 1).toNat ≤ 11 := by omega
  exact Nat.le_trans (Nat.pow_le_pow_left h1 _) (Nat.le_trans (Nat.pow_le_pow_right (by decide) h.ck.le) (by decide))
theorem Dr.w {c t : T} {ps : List Pay} (h : Dr c t ps) : Wk c t ps 2 2 := by
  have hl := h.pl
  exact ⟨h.ck.rng, h.ck.le, h.ck.ge, h.tb, h.pk, by omega, by omega, by omega⟩
/-- all that the law asks of a draw -/
structure Fc (c t : T) (ps : List Pay) (full : Bool) (r : List T) (l : Lay) (pl : List T) : Prop where
  rl : (rowsF srtT c ps [t] [[t]]).getLast? = some r
  ll : (layersF c t ps).getLast? = some l
  len : (layersF c t ps).length ≤ 1 + ps.length
  ff : full = decide ((layersF c t ps).length = 1 + ps.length)
  yes : full = true → r.length = l.length ∧ Valid c t ps pl ∧ endT t ps pl ∈ r
  no : full = false → r = []
theorem facts {c t : T} {ps : List Pay} (h : Dr c t ps) : ∃ full r l pl, Fc c t ps full r l pl ∧ ∀ η : Store, F_change_plan [tI c, tI t, psD ps] η = .ok (if full = true then .tup (pl.map tI) else .non) η := by
  obtain ⟨r, l, a1, a2, a3, a4⟩ := N97.last_row srtT_perm h.pos h.tb h.pk
  have hle := (N97.go_len (c := c) ps [(t, none)] [[(t, none)]]).2
  have hle' : (layersF c t ps).length ≤ 1 + ps.length := hle
  have hne : l ≠ [] := N97.go_ne ps [(t, none)] [[(t, none)]] l (by simp) rfl a2
  obtain ⟨k0, ks, hks⟩ : ∃ k0 ks, keys l = k0 :: ks := by
    cases e : keys l with
    | nil => exact absurd (N97.keys_nil.mp e) hne
    | cons k0 ks => exact ⟨k0, ks, rfl⟩
  obtain ⟨_, hmm⟩ := minBy_enc (ks.map tI) (tI k0)
  obtain ⟨m, hm1, hm2⟩ : ∃ m, m ∈ keys l ∧ minBy (tI k0) (ks.map tI) = tI m := by
    rw [← List.map_cons, ← hks] at hmm
    obtain ⟨m, h1, h2⟩ := List.mem_map.mp hmm
    exact ⟨m, h1, h2.symm⟩
  obtain ⟨rr, e1, e2, _, e5⟩ := go_chain (c := c) (L0 := [(t, none)]) ps [] trivial
  have e1' : layersF c t ps = [(t, none)] :: (rr.map (·.2)).reverse := e1
  have etop : topL [(t, none)] rr = l := by
    rw [e1'] at a2
    cases rr with
    | nil => simpa [topL] using a2
    | cons x r =>
      rw [List.map_cons, List.reverse_cons, ← List.cons_append, List.getLast?_concat] at a2
      exact Option.some.inj a2
  obtain ⟨pl0, hpl0⟩ : ∃ pl, planGo (layersF c t ps).tail.reverse m [] = some pl := by
    obtain ⟨_, h5⟩ := plan_chain (c := c) (L0 := [(t, none)]) (G := 2) h.pos (fun k hk => by simp [keys] at hk; subst hk; exact h.tb.1) rr e2 (fun x hx => h.pk x.1 (by
      rcases e5 x hx with q | q
      · cases q
      · exact q)) m (by rw [etop]; exact hm1)
    obtain ⟨pl, t0, _, b2, _⟩ := h5 []
    refine ⟨pl ++ [], ?_⟩
    rw [e1', List.tail_cons, List.reverse_reverse, b2]
  by_cases hf : (layersF c t ps).length = 1 + ps.length
  · obtain ⟨pl, b1, b2, b3⟩ := plan_valid (G := 2) h.pos h.tb.1 h.pk (by omega) a2 hm1
    refine ⟨true, r, l, pl, ⟨a1, a2, hle', by simp [hf], fun _ => ⟨(a3 hf).2, b2, by rw [b3]; exact ((a3 hf).1 m).mp hm1⟩, fun z => by cases z⟩, fun η => ?_⟩
    rw [changeplan_ok h.q h.k a2 hks hm2 b1]
    unfold planR
    rw [if_pos (by omega), if_pos rfl]
  · refine ⟨false, r, l, [], ⟨a1, a2, hle', by simp [hf], fun z => by (cases z), fun _ => a4 (by omega)⟩, fun η => ?_⟩
    rw [changeplan_ok h.q h.k a2 hks hm2 hpl0]
    unfold planR
    rw [if_neg (by omega), if_neg (by simp)]
theorem end_sum {c : T} : ∀ {ps : List Pay} {pl : List T} {now : T}, Valid c now ps pl → now.length = c.length → (∀ p ∈ ps, p.2.length = c.length) → sumIn c (endT now ps pl) = sumIn c now + (ps.map (·.1)).sum
  | [], [], now, _, _, _ => by simp [endT]
  | p :: ps, h :: pl, now, v, hn, hp => by
    obtain ⟨⟨a, b, d⟩, v2⟩ := v
    have hgl := hp p List.mem_cons_self
    have hfl : (addL now p.2).length = c.length := by rw [N97.addL_len (by rw [hn, hgl]), hn]
    have hsl : (subL (addL now p.2) h).length = c.length := by
      unfold subL
      rw [List.length_map, List.length_zip]; omega
    have ih := end_sum v2 hsl (fun q hq => hp q (List.mem_cons_of_mem _ hq))
    show sumIn c (endT (subL (addL now p.2) h) ps pl) = _
    rw [ih, N97.sum_sub hfl.symm (by omega), N97.sum_add hn.symm (by omega), d]
    simp
    omega
  | [], _ :: _, _, v, _, _ => v.elim
  | _ :: _, [], _, v, _, _ => v.elim
end K96
namespace K96
open PySem PySem.Spec PyProof.Rows L2 Dn
open N97 (T Pay Lay addL subL sumIn chg keys rg has put addAll layF goF layersF Box POk In rowsF servedL)
variable {η : Store}
abbrev E6 (s : D) (x2 x3 x4 x5 x6 x7 x8 x9 x10 x11 x12 x13 x14 x15 x16 x17 x18 x19 : Option D) : Dn.Env := [some s, some (.obj 0), x2, x3, x4, x5, x6, x7, x8, x9, x10, x11, x12, x13, x14, x15, x16, x17, x18, x19]
theorem vOk_tup {xs : List D} (h : ∀ x ∈ xs, xOk x = true) (hl : xs.length ≤ 1000) : vOk (.tup xs) = true :=
  Bool.and_eq_true_iff.mpr ⟨List.all_eq_true.mpr h, decide_eq_true hl⟩
theorem xOk_tup {xs : List D} (h : ∀ x ∈ xs, itOk x = true) (hl : xs.length ≤ 1000) : xOk (.tup xs) = true :=
  Bool.and_eq_true_iff.mpr ⟨List.all_eq_true.mpr h, decide_eq_true hl⟩
theorem cut_mem {xs : List D} {lo hi : Option Int} {x : D} (h : x ∈ cutL xs lo hi) : x ∈ xs := List.mem_of_mem_drop (List.mem_of_mem_take h)
theorem cut_len {xs : List D} {lo hi : Option Int} : (cutL xs lo hi).length ≤ xs.length := by
  unfold cutL
  rw [List.length_take, List.length_drop]; omega
/-! ### the values that are near -/
theorem near_ok {s : D} {c t : T} {ps : List Pay} {xs : List D} {x2 x5 x7 x8 x9 x10 x11 x12 x13 x14 x16 x17 x18 x19 : Option D} {P : Po} (hq : QOk c t ps) (hx : ∀ x ∈ xs, vOk x = true)
    (q : ∀ x19, P.nx (E6 s x2 (some (tI c)) (some (tI t)) x5 (some (psD ps)) x7 x8 x9 x10 x11 x12 x13 x14 (some (.lst xs)) x16 x17 x18 x19) η) :
    Dn.wpS (sFor fuel (iVal (gv 15)) (bN 19) b_law_1 (E6 s x2 (some (tI c)) (some (tI t)) x5 (some (psD ps)) x7 x8 x9 x10 x11 x12 x13 x14 (some (.lst xs)) x16 x17 x18 x19) η) P := by
  rw [w_for, w_iVal, w_gv]
  show Dn.wpS (forL (bN 19) b_law_1 xs _ η) P
  refine w_forL (fun _ ρ η' => (∃ x19, ρ = E6 s x2 (some (tI c)) (some (tI t)) x5 (some (psD ps)) x7 x8 x9 x10 x11 x12 x13 x14 (some (.lst xs)) x16 x17 x18 x19) ∧ η' = η) _ 0 ⟨⟨_, rfl⟩, rfl⟩ ?_ ?_
  · rintro j y hy ρ η' ⟨⟨x19, rfl⟩, rfl⟩
    have hv := hx y (List.mem_of_getElem? hy)
    rw [b_bN, wpO_some]
    show Dn.wpS (b_law_1 (E6 s x2 (some (tI c)) (some (tI t)) x5 (some (psD ps)) x7 x8 x9 x10 x11 x12 x13 x14 (some (.lst xs)) x16 x17 x18 (some y)) η') _
    unfold b_law_1
    simp
    refine wpR_of (isplan_ok hq hv) ?_
    refine wpR_of (lawplan_ok hq.ck hq.tl (fun p hp => (hq.pk p hp).len) (by have := hq.pl; omega) hv) ?_
    refine wpR_of (same_ok 3 (.bl (checkP c t ps y)) _ (by rfl)) ?_
    simp
  · rintro ρ η' ⟨⟨x19, rfl⟩, rfl⟩
    exact q _
/-! ### != () of payers, not in of a row -/
def pP (p : Pay) : PyData := .tuple [.int p.1, pI p.2]
theorem pds0_ps : ∀ ps : List Pay, pds0 (ps.map pD) = some (ps.map pP)
  | [] => rfl
  | p :: ps => by
    rw [List.map_cons]
    unfold pds0
    have e : pd0 (pD p) = some (pP p) := by
      show (pds0 [.int p.1, tI p.2]).map PyData.tuple = _
      unfold pds0
      have : pds0 [tI p.2] = some [pI p.2] := pds0_tI [p.2]
      rw [this]; rfl
    rw [e, pds0_ps ps]; rfl
theorem ne_ps (ps : List Pay) : neD (psD ps) (.tup []) η = some (.bl (!ps.isEmpty), η) := by
  have h1 : pd (psD ps) η = some (.tuple (ps.map pP)) := by
    show (pds0 (ps.map pD)).map PyData.tuple = _
    rw [pds0_ps]; rfl
  have h2 : pd (.tup []) η = some (.tuple []) := rfl
  have h3 : ∀ l : List Pay, PyData.canLayAll0 (l.map pP) = true := fun l => by
    induction l with
    | nil => rfl
    | cons p l ih =>
      show ((PyData.canLayAll0 (p.2.map PyData.int) && true) && PyData.canLayAll0 (l.map pP)) = true
      rw [ih, plain_ints]; rfl
  have h5 : ∀ l : List Pay, PyData.depthAll (l.map pP) ≤ 2 := fun l => by
    induction l with
    | nil => simp [PyData.depthAll]
    | cons p l ih =>
      rw [List.map_cons]
      simp only [PyData.depthAll, pP, pI, PyData.depth, PySem.W.depth_ints]
      omega
  have h4 : plainQ (.tuple (ps.map pP)) := by
    show (PyData.canLayAll0 (ps.map pP) && decide (PyData.depth (.tuple (ps.map pP)) ≤ 64)) = true
    rw [h3]
    have := h5 ps
    have : PyData.depth (.tuple (ps.map pP)) ≤ 64 := by simp only [PyData.depth]; omega
    simpa using this
  unfold neD
  rw [h1, h2]
  dsimp only
  rw [if_pos ⟨h4, by show SeqAt.shaped (.tuple []) = true; rfl⟩]
  cases ps with
  | nil => rfl
  | cons t r => simp [PyData.eqv, PyData.eqvAll]
theorem eqv_self (t : T) : PyData.eqv (pI t) (pI t) = true := by
  have : ∀ l : T, PyData.eqvAll (l.map .int) (l.map .int) = true := fun l => by
    induction l with
    | nil => rfl
    | cons x l ih =>
      rw [List.map_cons]
      simp [PyData.eqvAll, PyData.eqv, ih]
  simp [pI, PyData.eqv, this]
theorem notIn_row {e : T} {r : List T} (h : e ∈ r) : notInD (tI e) (rowD r) η = some (.bl false, η) := by
  have h1 : pd (tI e) η = some (pI e) := by
    show (pds0 (e.map D.int)).map PyData.tuple = _
    rw [pds0_ints]; rfl
  have h2 : pd (rowD r) η = some (.list (r.map pI)) := by
    show (pds0 (r.map tI)).map PyData.list = _
    rw [pds0_tI]; rfl
  have h3 : ∀ l : List T, PyData.canLayAll0 (l.map pI) = true := fun l => by
    induction l with
    | nil => rfl
    | cons t l ih =>
      show (PyData.canLayAll0 (t.map PyData.int) && PyData.canLayAll0 (l.map pI)) = true
      rw [ih, plain_ints]; rfl
  have h4 : plainQ (.list (r.map pI)) := by
    show (PyData.canLayAll0 (r.map pI) && decide (PyData.depth (.list (r.map pI)) ≤ 64)) = true
    rw [h3]
    have : PyData.depth (.list (r.map pI)) ≤ 64 := by
      have := dep_tI r
      simp only [PyData.depth]; omega
    simpa using this
  have h5 : plainQ (pI e) := by
    show (PyData.canLayAll0 (e.map PyData.int) && decide (PyData.depth (pI e) ≤ 64)) = true
    rw [plain_ints]
    have : PyData.depth (pI e) ≤ 64 := by simp [pI, PyData.depth, PySem.W.depth_ints]
    simpa using this
  unfold notInD
  rw [h1, h2]
  dsimp only
  rw [if_pos ⟨h5, h4⟩]
  have h6 : ((r.map pI).any fun z => PyData.eqv z (pI e)) = true := List.any_eq_true.mpr ⟨pI e, List.mem_map.mpr ⟨e, h, rfl⟩, eqv_self e⟩
  rw [h6]; rfl
theorem psD_len (ps : List Pay) (η : Store) : lenD [psD ps] η = some (.int ps.length, η) := by
  show lenD [.tup (ps.map pD)] η = _
  rw [lenD_tup, List.length_map]
theorem tI_len (c : T) (η : Store) : lenD [tI c] η = some (.int c.length, η) := by
  show lenD [.tup (c.map D.int)] η = _
  rw [lenD_tup, List.length_map]
end K96
namespace K96
open PySem PySem.Spec PyProof.Rows L2 Dn
open N97 (T Pay Lay addL subL sumIn chg keys rg has put addAll layF goF layersF Box POk In rowsF servedL)
variable {η : Store}
theorem near3_ok {s : D} {c t : T} {ps : List Pay} {full : Bool} {pl : List T} {x2 x5 x7 x8 x9 x10 x12 x13 x14 x15 x16 x17 x18 x19 : Option D} {P : Po} (cu : Cup 0 η) (h : Dr c t ps) (hv : full = true → Valid c t ps pl)
    (q : ∀ x9 x13 x14 x15 x16 x17 x18 x19 η', Cup 0 η' → P.nx (E6 s x2 (some (tI c)) (some (tI t)) x5 (some (psD ps)) x7 x8 x9 x10 (some (if full = true then .tup (pl.map tI) else .non)) x12 x13 x14 x15 x16 x17 x18 x19) η') :
    Dn.wpS (sSeq (sAsg (mkL (aCons (gv 11) (aCons (mkT aNil) (aCons (cst .non) (aCons (eL tupleD (aCons (e2 mulT (mkL (aCons (e2 mulT (mkT (aCons (cst (.int 0)) aNil)) (eL lenD (aCons (gv 3) aNil))) aNil)) (eL lenD (aCons (gv 6) aNil))) aNil)) (aCons (eL tupleD (aCons (lc fuel [13, 14] (iVal (gv 6)) (bT [(bN 13), (bN 14)]) yes (gv 14)) aNil)) (aCons (cst (.str "plan")) (aCons (mkL (aCons (gv 11) aNil)) aNil)))))))) (bN 15))
    (sSeq (sIf (andT (tst (e2 isNotD (gv 11) (cst .non))) (tst (e2 neD (gv 6) (mkT aNil)))) (sSeq (sAsg (eCall 2 F__law_roll (aCons (gv 1) (aCons (eL lenD (aCons (gv 6) aNil)) aNil))) (bN 16))
    (sSeq (sAsg (e2 ixD (gv 11) (gv 16)) (bN 17))
    (sSeq (sAsg (mkL (aCons (eL tupleD (aCons (lc fuel [19] (iVal (gv 17)) (bN 19) yes (e2 addD (gv 19) (cst (.int 1)))) aNil)) (aCons (eSl slD (gv 17) oNone (oSome (e1 negD (cst (.int 1))))) (aCons (eL listD (aCons (gv 17) aNil)) (aCons (e2 addD (mkT (aCons (e2 subD (e2 ixD (gv 17) (cst (.int 0))) (cst (.int 1))) aNil)) (eSl slD (gv 17) (oSome (cst (.int 1))) oNone)) (aCons (e2 addD (mkT (aCons (cst .non) aNil)) (eSl slD (gv 17) (oSome (cst (.int 1))) oNone)) (aCons (e2 addD (mkT (aCons (cst (.bl true)) aNil)) (eSl slD (gv 17) (oSome (cst (.int 1))) oNone)) (aCons (e1 revA (gv 17)) (aCons (cst .non) aNil))))))))) (bN 18))
    (sAsg (e2 addD (e2 addD (gv 15) (mkL (aCons (eL listD (aCons (gv 11) aNil)) (aCons (eSl slD (gv 11) (oSome (cst (.int 1))) oNone) (aCons (e2 addD (gv 11) (eSl slD (gv 11) (oSome (e1 negD (cst (.int 1)))) oNone)) aNil))))) (lc fuel [19] (iVal (gv 18)) (bN 19) yes (e2 addD (e2 addD (eSl slD (gv 11) oNone (oSome (gv 16))) (mkT (aCons (gv 19) aNil))) (eSl slD (gv 11) (oSome (e2 addD (gv 16) (cst (.int 1)))) oNone)))) (bN 15))))) sNil)
    (sFor fuel (iVal (gv 15)) (bN 19) b_law_1))
      (E6 s x2 (some (tI c)) (some (tI t)) x5 (some (psD ps)) x7 x8 x9 x10 (some (if full = true then .tup (pl.map tI) else .non)) x12 x13 x14 x15 x16 x17 x18 x19) η) P := by
  have hq := h.q
  have hcl := h.ck.le
  have hpl := h.pl
  have hplan : vOk (if full = true then .tup (pl.map tI) else .non) = true := by
    cases full with
    | false => rfl
    | true =>
      have v := hv rfl
      have hl := valid_len v
      exact vOk_pl (fun x hx => by have := valid_mem v x hx; omega) (by omega)
  have hdl : D.typ (if full = true then .tup (pl.map tI) else .non) = true := vOk_typ hplan
  generalize hd11 : (if full = true then D.tup (pl.map tI) else D.non) = d11 at *
  have em1 : ∀ η : Store, mulT (.tup [.int 0]) (.int c.length) η = some (tI (List.replicate c.length 0), η) := fun η => by
    rw [mulT_tup (by simp) (by simp) (by omega)]
    have : ∀ n : Nat, (List.replicate n [D.int 0]).flatten = (List.replicate n (0 : Int)).map D.int := fun n => by
      induction n with
      | zero => rfl
      | succ n ih => rw [List.replicate_succ, List.flatten_cons, ih, List.replicate_succ]; rfl
    rw [this]; rfl
  have em2 : ∀ (d : D) (η : Store), mulT (.lst [d]) (.int ps.length) η = some (.lst (List.replicate ps.length d), η) := fun d η => by
    show mulD (.lst [d]) (.int ps.length) η = _
    unfold mulD
    have e : lstOf (.lst [d]) η = some [d] := rfl
    dsimp only
    rw [e]
    dsimp only
    have hsz : [d].length * ((ps.length : Int)).toNat ≤ sizeLine := szle (by simp; omega)
    rw [if_pos ⟨by omega, by omega, hsz⟩]
    have : ∀ n : Nat, (List.replicate n [d]).flatten = List.replicate n d := fun n => by
      induction n with
      | zero => rfl
      | succ n ih => rw [List.replicate_succ, List.flatten_cons, ih, List.replicate_succ]; rfl
    rw [this]; rfl
  have es : ∀ η : Store, srcOf (psD ps) η = some (.val (ps.map pD)) := fun _ => rfl
  rw [w_seq, w_asg]
  simp [-w_seq, tI_len, psD_len, em1, em2, w_lc, w_nx, cmpS, es]
  refine wpR_of (cmp_of (α := Pay) pD (fun p => tI p.2) ps fun p hp => ⟨_, rfl, rfl, rfl⟩) ?_
  refine ⟨szle (by rw [List.length_map]; omega), ?_⟩
  have hnear0 : ∀ x ∈ [d11, D.tup [], D.non, D.tup (List.replicate ps.length (tI (List.replicate c.length 0))), D.tup (ps.map fun p => tI p.2), D.str (Str.ofString "plan"), D.lst [d11]], vOk x = true := by
    intro x hx
    simp only [List.mem_cons, List.not_mem_nil, or_false] at hx
    rcases hx with rfl | rfl | rfl | rfl | rfl | rfl | rfl
    · exact hplan
    · rfl
    · rfl
    · exact vOk_tup (fun y hy => by rw [List.eq_of_mem_replicate hy]; exact xOk_tI (by rw [List.length_replicate]; omega)) (by rw [List.length_replicate]; omega)
    · refine vOk_tup (fun y hy => ?_) (by rw [List.length_map]; omega)
      obtain ⟨p, hp, rfl⟩ := List.mem_map.mp hy
      exact xOk_tI (by rw [(h.pay hp).len]; omega)
    · rfl
    · rfl
  have hnl : ([d11, D.tup [], D.non, D.tup (List.replicate ps.length (tI (List.replicate c.length 0))), D.tup (ps.map fun p => tI p.2), D.str (Str.ofString "plan"), D.lst [d11]] : List D).length ≤ 7 := by simp
  generalize [d11, D.tup [], D.non, D.tup (List.replicate ps.length (tI (List.replicate c.length 0))), D.tup (ps.map fun p => tI p.2), D.str (Str.ofString "plan"), D.lst [d11]] = near0 at *
  rw [w_seq, w_sIf]
  simp [-w_seq, ne_ps]
  cases full with
  | false =>
    simp at hd11
    subst hd11
    simp [-w_seq]
    exact near_ok hq hnear0 fun x19 => q _ _ _ _ _ _ _ _ _ cu
  | true =>
    simp at hd11
    subst hd11
    have v := hv rfl
    have hvl := valid_len v
    simp [-w_seq]
    by_cases hps : ps = []
    · rw [if_pos (by simpa using hps)]
      exact near_ok hq hnear0 fun x19 => q _ _ _ _ _ _ _ _ _ cu
    rw [if_neg (by simpa using hps)]
    have hpos : 0 < ps.length := List.length_pos_iff.mpr hps
    rw [w_seq, w_asg]
    simp [-w_seq, psD_len]
    refine roll_ok.wp cu (by omega) (by omega) fun r η1 h0 h1 c1 k1 => ?_
    obtain ⟨a, rfl⟩ : ∃ a : Nat, r = a := ⟨r.toNat, by omega⟩
    have ha : a < pl.length := by omega
    rw [w_seq, w_asg]
    have eix : atI (pl.map tI) (a : Int) = some (tI pl[a]) := by
      rw [atI_nat (by rw [List.length_map]; exact ha), List.getElem_map]
    simp [-w_seq, eix]
    have hhl : pl[a].length = c.length := valid_mem v _ (List.getElem_mem ha)
    have hge := h.ck.ge
    generalize pl[a] = hp at *
    obtain ⟨x0, h', rfl⟩ : ∃ x0 h', hp = x0 :: h' := by
      cases hp with
      | nil => simp at hhl; omega
      | cons x0 h' => exact ⟨x0, h', rfl⟩
    have esh : ∀ η : Store, srcOf (tI (x0 :: h')) η = some (.val ((x0 :: h').map D.int)) := fun _ => rfl
    have hh3 : h'.length ≤ 3 := by simp at hhl; omega
    rw [w_seq, w_asg, w_mkL, w_aCons, w_eL, w_aCons, w_lc, w_iVal, w_gv]
    simp only [List.getElem?_cons_zero, List.getElem?_cons_succ, wpO_some, esh, w_nx, cmpS]
    refine wpR_of (cmp_of (α := Int) D.int (fun z => .int (z + 1)) (x0 :: h') fun z hz => ⟨_, rfl, rfl, ok_of_wpR1 (by simp [wipeD])⟩) ?_
    refine ⟨szle (by rw [List.length_map]; simp; omega), ?_⟩
    have e1 : slD (tI (x0 :: h')) none (some (-1)) η1 = some (.tup (cutL ((x0 :: h').map D.int) none (some (-1))), η1) := rfl
    have e2 : slD (tI (x0 :: h')) (some 1) none η1 = some (.tup (h'.map D.int), η1) := by
      show slD (.tup ((x0 :: h').map D.int)) (some 1) none η1 = _
      rw [slD_tup, cutL_from1]; rfl
    have e3 : listD [tI (x0 :: h')] η1 = some (.lst ((x0 :: h').map D.int), η1) := rfl
    have e4 : ixD (tI (x0 :: h')) (.int 0) η1 = some (.int x0, η1) := by
      show ixD (.tup ((x0 :: h').map D.int)) (.int 0) η1 = _
      rw [ixD_tup, List.map_cons, atI_zero]; rfl
    have e5 : revA (tI (x0 :: h')) η1 = some (.tup ((x0 :: h').map D.int).reverse, η1) := rfl
    simp [-w_seq, e1, e2, e3, e4, e5]
    have hP : ∀ x ∈ pl.map tI, xOk x = true := fun x hx => by
      obtain ⟨y, hy, rfl⟩ := List.mem_map.mp hx
      exact xOk_tI (by have := valid_mem v y hy; omega)
    have hPl : (pl.map tI).length ≤ 4 := by rw [List.length_map]; omega
    have hit : ∀ y ∈ h'.map D.int, itOk y = true := fun y hy => by
      obtain ⟨z, _, rfl⟩ := List.mem_map.mp hy
      rfl
    have hsm : ∀ x ∈ [D.tup (D.int (x0 + 1) :: h'.map fun z => D.int (z + 1)), D.tup (cutL (D.int x0 :: h'.map D.int) none (some (-1))), D.lst (D.int x0 :: h'.map D.int), D.tup (D.int (x0 - 1) :: h'.map D.int), D.tup (D.non :: h'.map D.int), D.tup (D.bl true :: h'.map D.int), D.tup ((h'.map D.int).reverse ++ [D.int x0]), D.non], xOk x = true := by
      intro x hx
      simp only [List.mem_cons, List.not_mem_nil, or_false] at hx
      rcases hx with rfl | rfl | rfl | rfl | rfl | rfl | rfl | rfl
      · refine xOk_tup (fun y hy => ?_) (by simp; omega)
        rcases List.mem_cons.mp hy with rfl | hy
        · rfl
        · obtain ⟨z, _, rfl⟩ := List.mem_map.mp hy
          rfl
      · refine xOk_tup (fun y hy => ?_) (Nat.le_trans cut_len (by simp; omega))
        rcases List.mem_cons.mp (cut_mem hy) with rfl | hy
        · rfl
        · exact hit y hy
      · rfl
      · refine xOk_tup (fun y hy => ?_) (by simp; omega)
        rcases List.mem_cons.mp hy with rfl | hy
        · rfl
        · exact hit y hy
      · refine xOk_tup (fun y hy => ?_) (by simp; omega)
        rcases List.mem_cons.mp hy with rfl | hy
        · rfl
        · exact hit y hy
      · refine xOk_tup (fun y hy => ?_) (by simp; omega)
        rcases List.mem_cons.mp hy with rfl | hy
        · rfl
        · exact hit y hy
      · refine xOk_tup (fun y hy => ?_) (by simp; omega)
        rcases List.mem_append.mp hy with hy | hy
        · exact hit y (List.mem_reverse.mp hy)
        · simp at hy; subst hy; rfl
      · rfl
    have hsl : ([D.tup (D.int (x0 + 1) :: h'.map fun z => D.int (z + 1)), D.tup (cutL (D.int x0 :: h'.map D.int) none (some (-1))), D.lst (D.int x0 :: h'.map D.int), D.tup (D.int (x0 - 1) :: h'.map D.int), D.tup (D.non :: h'.map D.int), D.tup (D.bl true :: h'.map D.int), D.tup ((h'.map D.int).reverse ++ [D.int x0]), D.non] : List D).length ≤ 8 := by simp
    generalize [D.tup (D.int (x0 + 1) :: h'.map fun z => D.int (z + 1)), D.tup (cutL (D.int x0 :: h'.map D.int) none (some (-1))), D.lst (D.int x0 :: h'.map D.int), D.tup (D.int (x0 - 1) :: h'.map D.int), D.tup (D.non :: h'.map D.int), D.tup (D.bl true :: h'.map D.int), D.tup ((h'.map D.int).reverse ++ [D.int x0]), D.non] = sm at *
    have hcl1 := cut_len (xs := pl.map tI) (lo := some (-1)) (hi := none)
    have hcl2 := cut_len (xs := pl.map tI) (lo := none) (hi := some (a : Int))
    have hcl3 := cut_len (xs := pl.map tI) (lo := some ((a : Int) + 1)) (hi := none)
    rw [List.length_map] at hPl
    rw [List.length_map] at hcl1 hcl2 hcl3
    refine ⟨szle (by omega), szle (by omega), szle (by omega), ?_⟩
    rw [w_lc, w_iVal, w_gv]
    simp only [List.getElem?_cons_zero, List.getElem?_cons_succ, wpO_some, srcOf_lst, w_nx, cmpS]
    have ecm : cmp (bN 19) yes (Dn.e2 addD (Dn.e2 addD (eSl slD (gv 11) oNone (oSome (gv 16))) (mkT (aCons (gv 19) aNil))) (eSl slD (gv 11) (oSome (Dn.e2 addD (gv 16) (cst (.int 1)))) oNone)) (wipeD (E6 s x2 (some (tI c)) (some (tI t)) x5 (some (psD ps)) x7 x8 x9 x10 (some (.tup (pl.map tI))) x12 x13 x14 (some (.lst near0)) (some (.int (a : Int))) (some (tI (x0 :: h'))) (some (.lst sm)) x19) [19]) sm η1
        = .ok (sm.map fun one => D.tup ((cutL (pl.map tI) none (some (a : Int)) ++ [one]) ++ cutL (pl.map tI) (some ((a : Int) + 1)) none)) η1 := by
      have h0 := cmp_of (b := bN 19) (s := yes) (te := Dn.e2 addD (Dn.e2 addD (eSl slD (gv 11) oNone (oSome (gv 16))) (mkT (aCons (gv 19) aNil))) (eSl slD (gv 11) (oSome (Dn.e2 addD (gv 16) (cst (.int 1)))) oNone)) (ρ := wipeD (E6 s x2 (some (tI c)) (some (tI t)) x5 (some (psD ps)) x7 x8 x9 x10 (some (.tup (pl.map tI))) x12 x13 x14 (some (.lst near0)) (some (.int (a : Int))) (some (tI (x0 :: h'))) (some (.lst sm)) x19) [19]) (η := η1) (α := D) id (fun one => D.tup ((cutL (pl.map tI) none (some (a : Int)) ++ [one]) ++ cutL (pl.map tI) (some ((a : Int) + 1)) none)) sm fun one ho => ⟨_, rfl, rfl, ok_of_wpR1 (by
        simp [wipeD]
        exact ⟨szle (by omega), szle (by omega)⟩)⟩
      rw [List.map_id] at h0
      exact h0
    refine wpR_of ecm ?_
    refine ⟨szle (by rw [List.length_map]; omega), ?_⟩
    rw [addD_ls (by simp; omega), wpO_some]
    refine near_ok hq (fun x hx => ?_) fun x19 => q _ _ _ _ _ _ _ _ _ c1
    rcases List.mem_append.mp hx with hx | hx
    · rcases List.mem_append.mp hx with hx | hx
      · exact hnear0 x hx
      · simp only [List.mem_cons, List.not_mem_nil, or_false] at hx
        rcases hx with rfl | rfl | rfl
        · rfl
        · exact vOk_tup (fun y hy => hP y (List.mem_of_mem_tail hy)) (by rw [List.length_tail, List.length_map]; omega)
        · refine vOk_tup (fun y hy => ?_) (by rw [List.length_append, List.length_map]; omega)
          rcases List.mem_append.mp hy with hy | hy
          · exact hP y hy
          · exact hP y (cut_mem hy)
    · obtain ⟨one, ho, rfl⟩ := List.mem_map.mp hx
      refine vOk_tup (fun y hy => ?_) (by simp; omega)
      rcases List.mem_append.mp hy with hy | hy
      · rcases List.mem_append.mp hy with hy | hy
        · exact hP y (cut_mem hy)
        · simp at hy; subst hy; exact hsm _ ho
      · exact hP y (cut_mem hy)
end K96
namespace K96
open PySem PySem.Spec PyProof.Rows L2 Dn
open N97 (T Pay Lay addL subL sumIn chg keys rg has put addAll layF goF layersF Box POk In rowsF servedL)
variable {η : Store}
theorem Dr.served {c t : T} {ps : List Pay} (h : Dr c t ps) : servedL srtT c t ps = ((layersF c t ps).length : Int) - 1 :=
  N97.served_eq srtT_perm h.pos h.tb h.pk
theorem coins_take {cs : T} (h1 : ∀ x ∈ cs, 1 ≤ x ∧ x ≤ 12) (h2 : rise cs = true) (h3 : 1 ≤ cs.length) : COk (cs.take 3) := by
  refine ⟨by rw [List.length_take]; omega, by rw [List.length_take]; omega, fun x hx => h1 x (List.mem_of_mem_take hx), rise_iff.mpr ?_⟩
  exact (rise_iff.mp h2).sublist (List.take_sublist 3 cs)
theorem turn_ok {s : D} {x2 x3 x4 x5 x6 x7 x8 x9 x10 x11 x12 x13 x14 x15 x16 x17 x18 x19 : Option D} {P : Po} (cu : Cup 0 η)
    (q : ∀ x2 x3 x4 x5 x6 x7 x8 x9 x10 x11 x12 x13 x14 x15 x16 x17 x18 x19 η', Cup 0 η' → P.nx (E6 s x2 x3 x4 x5 x6 x7 x8 x9 x10 x11 x12 x13 x14 x15 x16 x17 x18 x19) η') :
    Dn.wpS (b_law_2 (E6 s x2 x3 x4 x5 x6 x7 x8 x9 x10 x11 x12 x13 x14 x15 x16 x17 x18 x19) η) P := by
  unfold b_law_2
  rw [w_seq, w_asg, w_eSl, w_eCall, w_aCons, w_gv]
  simp [-w_seq]
  refine lawcoins_ok cu fun cs η1 h1 h2 h3 h4 c1 => ?_
  have hc := coins_take h1 h2 h3
  have ecut : slD (tI cs) none (some 3) η1 = some (tI (cs.take 3), η1) := by
    show slD (.tup (cs.map D.int)) none (some 3) η1 = _
    rw [slD_tup]
    have : cutL (cs.map D.int) none (some 3) = (cs.map D.int).take 3 := cutL_to (n := 3)
    rw [this, ← List.map_take]; rfl
  rw [ecut, wpO_some]
  dsimp only
  generalize hct : cs.take 3 = c at *
  have es : ∀ η : Store, srcOf (tI c) η = some (.val (c.map D.int)) := fun _ => rfl
  rw [w_seq, w_asg, w_eL, w_aCons, w_lc, w_iVal, w_gv]
  simp [-w_seq, es, w_nx, cmpS]
  refine given_comp (B := 2) c1 (fun x η QD E cu ht => ?_) fun t η2 ht c2 => ?_
  · simp [wipeD]
    refine some_ok.wp cu (by simp) (by simp) fun y η6 hy c6 k6 => ?_
    simp at hy
    rcases hy with rfl | rfl | rfl
    · exact ht 0 _ (by omega) (by omega) c6
    · exact ht 1 _ (by omega) (by omega) c6
    · exact ht 2 _ (by omega) (by omega) c6
  · have htl := ht.1
    have hcl := hc.le
    have et : D.tup (t.map D.int) = tI t := rfl
    refine ⟨szle (by rw [List.length_map]; omega), ?_⟩
    rw [et, w_seq, w_asg, w_eCall, w_aCons, w_gv]
    simp [-w_seq]
    refine roll_ok.wp c2 (by decide) (by decide) fun n0 η3 a0 a1 c3 k3 => ?_
    obtain ⟨n, rfl⟩ : ∃ n : Nat, n0 = n := ⟨n0.toNat, by omega⟩
    refine payers_law c3 (by omega) hc.rng hc.le fun ps η4 hpl hpo c4 => ?_
    have h : Dr c t ps := ⟨hc, ht, hpo, by omega⟩
    obtain ⟨full, r, l, pl, F, eplan⟩ := facts h
    have hR := N97.rows_len (srt := srtT) (c := c) ps [t] [[t]]
    have hRl : (rowsF srtT c ps [t] [[t]]).length ≤ 5 := by rw [hR]; simp; have := h.pl; omega
    rw [w_seq, w_asg]
    simp [-w_seq]
    refine wpR_of (tills_ok h.w) ?_
    rw [w_seq, w_asg]
    simp [-w_seq, w_lc, w_nx, cmpS]
    refine wpR_of (cmp_off (α := List T) rowD rowD (fun r => decide (r ≠ [])) _ fun r hr => ⟨_, rfl, ok_of_wpR1 (by simp [wipeD, ne_row]), fun _ => rfl⟩) ?_
    refine ⟨szle (by rw [List.length_map]; exact Nat.le_trans (List.length_filter_le _ _) (by omega)), ?_⟩
    have emany : (((((rowsF srtT c ps [t] [[t]]).filter fun r => decide (r ≠ [])).map rowD).length : Nat) : Int) - 1 = ((layersF c t ps).length : Int) - 1 := by
      rw [List.length_map]
      exact h.served
    rw [emany]
    have erow : ∀ η : Store, ixD (.lst ((rowsF srtT c ps [t] [[t]]).map rowD)) (.int (-1)) η = some (rowD r, η) := fun η => by
      have hne : rowsF srtT c ps [t] [[t]] ≠ [] := fun e => by have := F.rl; rw [e] at this; cases this
      rw [ixD_lst, atI_last (by simpa using hne), List.getLast_map]
      have := F.rl
      rw [List.getLast?_eq_some_getLast hne] at this
      rw [Option.some.inj this]; rfl
    have elenr : ∀ η : Store, lenD [rowD r] η = some (.int r.length, η) := fun η => by
      show lenD [.lst (r.map tI)] η = _
      rw [lenD_lst, List.length_map]
    have etold : (if ps.length < (layersF c t ps).length then (l.length : Int) else 0) = r.length := by
      cases hf : full with
      | true =>
        have h1 := F.ff
        rw [hf] at h1
        have h2 := of_decide_eq_true h1.symm
        rw [if_pos (by omega), (F.yes hf).1]
      | false =>
        have h1 := F.ff
        rw [hf] at h1
        have h2 := of_decide_eq_false h1.symm
        have := F.len
        rw [if_neg (by omega), F.no hf]; rfl
    have etill := fun η : Store => tillsmany_ok (η := η) h.q h.k F.ll
    rw [etold] at etill
    rw [w_seq, w_asg]
    simp [-w_seq]
    refine wpR_of (served_ok h.q h.k) ?_
    refine wpR_of (etill _) ?_
    rw [w_seq, w_sIf]
    have eatI : atI ((rowsF srtT c ps [t] [[t]]).map rowD) (-1) = some (rowD r) := by
      have := erow η4
      rw [ixD_lst] at this
      cases e : atI ((rowsF srtT c ps [t] [[t]]).map rowD) (-1) with
      | none => rw [e] at this; cases this
      | some z => rw [e] at this; cases this; rfl
    simp [-w_seq, eatI, elenr]
    refine wpR_of (same_ok 3 (.tup [.int (((layersF c t ps).length : Int) - 1), .int r.length]) _ (by rfl)) ?_
    simp [-w_seq]
    rw [w_seq, w_asg]
    simp [-w_seq]
    refine wpR_of (eplan _) ?_
    rw [w_seq, w_sIf]
    simp [-w_seq, psD_len]
    have enon : isNon (if full = true then D.tup (pl.map tI) else D.non) = !full := by cases full <;> rfl
    have edec : decide (((layersF c t ps).length : Int) - 1 < (ps.length : Int)) = !full := by
      rw [F.ff]
      have := F.len
      by_cases hf : (layersF c t ps).length = 1 + ps.length
      · rw [decide_eq_true hf, decide_eq_false (by omega)]; rfl
      · rw [decide_eq_false hf, decide_eq_true (by omega)]; rfl
    have enb : ∀ (b : Bool) (η : Store), neD (.bl b) (.bl b) η = some (.bl false, η) := fun b η => by cases b <;> kernel_rfl
    rw [enon, edec, enb, wpO_some]
    simp [-w_seq]
    rw [w_seq, w_sIf]
    cases hf : full with
    | false =>
      simp [-w_seq]
      refine near3_ok (full := false) (pl := pl) c4 h (fun z => by cases z) fun y9 y13 y14 y15 y16 y17 y18 y19 η5 c5 => ?_
      exact q _ _ _ _ _ _ _ _ _ _ _ _ _ _ _ _ _ _ _ c5
    | true =>
      obtain ⟨_, v, hend⟩ := F.yes hf
      have hvl := valid_len v
      have hpl4 := h.pl
      have hvo : vOk (.tup (pl.map tI)) = true := vOk_pl (fun x hx => by have := valid_mem v x hx; omega) (by omega)
      have hck : checkP c t ps (.tup (pl.map tI)) = true := valid_ok v
      have hpls : ∀ p ∈ ps, p.2.length = c.length := fun p hp => (h.pay hp).len
      simp [-w_seq]
      rw [w_seq, w_sIf]
      simp [-w_seq]
      refine wpR_of (lawplan_ok hc h.tb.1 hpls (by omega) hvo) ?_
      rw [hck]
      simp [-w_seq]
      refine wpR_of (isplan_ok h.q hvo) ?_
      rw [hck]
      simp [-w_seq]
      rw [w_seq, w_asg]
      simp [-w_seq]
      refine wpR_of (behind_ok h.q v) ?_
      simp [-w_seq, eatI, notIn_row hend]
      have hel : (endT t ps pl).length = c.length := by
        have : ∀ (ps : List Pay) (pl : List T) (now : T), Valid c now ps pl → now.length = c.length → (∀ p ∈ ps, p.2.length = c.length) → (endT now ps pl).length = c.length := by
          intro ps
          induction ps with
          | nil =>
            intro pl now v hn _
            cases pl with
            | nil => exact hn
            | cons _ _ => exact v.elim
          | cons p ps ih =>
            intro pl now v hn hp
            cases pl with
            | nil => exact v.elim
            | cons g pl =>
              obtain ⟨⟨a, b, d⟩, v2⟩ := v
              have hgl := hp p List.mem_cons_self
              have hfl : (addL now p.2).length = c.length := by rw [N97.addL_len (by rw [hn, hgl]), hn]
              refine ih pl _ v2 ?_ fun r hr => hp r (List.mem_cons_of_mem _ hr)
              unfold subL
              rw [List.length_map, List.length_zip]; omega
        exact this ps pl t v h.tb.1 hpls
      refine wpR_of (lawsum_ok hc.rng (by omega)) ?_
      refine wpR_of (lawsum_ok hc.rng (by omega)) ?_
      have esp : ∀ η : Store, srcOf (psD ps) η = some (.val (ps.map pD)) := fun _ => rfl
      simp [-w_seq, w_lc, w_nx, cmpS, esp]
      refine wpR_of (cmp_of (α := Pay) pD (fun p => .int p.1) ps fun p hp => ⟨_, rfl, rfl, rfl⟩) ?_
      refine ⟨szle (by rw [List.length_map]; omega), ?_⟩
      rw [sumD_lst, intsOf_map (fun p : Pay => p.1)]
      have esum := end_sum v h.tb.1 hpls
      simp [-w_seq, esum]
      refine near3_ok (full := true) (pl := pl) c4 h (fun _ => v) fun y9 y13 y14 y15 y16 y17 y18 y19 η5 c5 => ?_
      exact q _ _ _ _ _ _ _ _ _ _ _ _ _ _ _ _ _ _ _ c5
end K96
namespace K96
open PySem PySem.Spec PyProof.Rows L2 Dn
theorem law_true : ∀ ns : List Int, ns.length ≤ 63 → ∃ η', F_law [.scr (ns.map D.int)] [] = .ok (.bl true) η' := by
  intro ns hl
  refine (fun (h : wpR (F_law [.scr (ns.map D.int)] []) (fun d _ => d = .bl true) (fun _ _ => False)) => ?_) ?_
  · obtain ⟨a, η', e, rfl⟩ := ok_of_wpR h
    exact ⟨η', e⟩
  unfold F_law b_law
  rw [w_runF]
  obtain ⟨η1, e1, c1⟩ := cup_ok ns hl
  rw [w_seq, w_asg]
  simp [-w_seq]
  refine wpR_of e1 ?_
  rw [w_seq, w_for]
  simp [-w_seq]
  refine ⟨by decide, ?_⟩
  refine w_forL (fun _ ρ η => Cup 0 η ∧ ∃ s x2 x3 x4 x5 x6 x7 x8 x9 x10 x11 x12 x13 x14 x15 x16 x17 x18 x19, ρ = E6 s x2 x3 x4 x5 x6 x7 x8 x9 x10 x11 x12 x13 x14 x15 x16 x17 x18 x19) _ 0 ⟨c1, _, _, _, _, _, _, _, _, _, _, _, _, _, _, _, _, _, _, _, rfl⟩ ?_ ?_
  · rintro j x hx ρ η2 ⟨c2, s, x2, x3, x4, x5, x6, x7, x8, x9, x10, x11, x12, x13, x14, x15, x16, x17, x18, x19, rfl⟩
    rw [b_bN, wpO_some]
    show Dn.wpS (b_law_2 (E6 s (some x) x3 x4 x5 x6 x7 x8 x9 x10 x11 x12 x13 x14 x15 x16 x17 x18 x19) η2) _
    refine turn_ok c2 fun y2 y3 y4 y5 y6 y7 y8 y9 y10 y11 y12 y13 y14 y15 y16 y17 y18 y19 η3 c3 => ?_
    exact ⟨c3, _, _, _, _, _, _, _, _, _, _, _, _, _, _, _, _, _, _, _, rfl⟩
  · rintro ρ η2 ⟨c2, s, x2, x3, x4, x5, x6, x7, x8, x9, x10, x11, x12, x13, x14, x15, x16, x17, x18, x19, rfl⟩
    simp
end K96
namespace K96
open PySem PySem.Spec PyProof.Rows L2 Dn
/-! ### the head -/
def fn : List He.DefD := ([dfn "is_whole" (top 10), dfn "fits_whole" (top 11), dfn "is_tuple_of" (top 12), dfn "is_rising" (top 13), dfn "fits_coins" (top 14), dfn "need_coins" (top 15), dfn "sum_in" (top 16), dfn "need_few" (top 23), dfn "fits_till" (top 24), dfn "fits_payer" (top 25), dfn "fits_payers" (top 26), dfn "need_queue" (top 27), dfn "with_given" (top 28), dfn "without" (top 29), dfn "changes" (top 30), dfn "layers_in" (top 31), dfn "plan_in" (top 32), dfn "fits_plan" (top 33), dfn "served_many" (top 34), dfn "change_plan" (top 35), dfn "is_plan" (top 36), dfn "till_behind" (top 37), dfn "tills_many" (top 38), dfn "_law_cup" (top 40), dfn "_law_roll" (top 41), dfn "_law_some" (top 42), dfn "_law_same" (top 43), dfn "_law_coins" (top 44), dfn "_law_sum" (top 45), dfn "_law_payers" (top 46)] : List He.DefD) ++ ([dfn "_law_heaps" (top 47), dfn "_law_tills" (top 48), dfn "_law_served" (top 49), dfn "_law_is_plan" (top 50), dfn "law" (top 51)] : List He.DefD)
def fa : List He.Fa := ([.glo "is_whole", .glo "fits_whole", .glo "is_tuple_of", .glo "is_rising", .glo "fits_coins", .glo "need_coins", .glo "sum_in", .glo "need_few", .glo "fits_till", .glo "fits_payer", .glo "fits_payers", .glo "need_queue", .glo "with_given", .glo "without", .glo "changes", .glo "layers_in", .glo "plan_in", .glo "fits_plan", .glo "served_many", .glo "change_plan", .glo "is_plan", .glo "till_behind", .glo "tills_many", .glo "_law_cup", .glo "_law_roll", .glo "_law_some", .glo "_law_same", .glo "_law_coins", .glo "_law_sum", .glo "_law_payers"] : List He.Fa) ++ ([.glo "_law_heaps", .glo "_law_tills", .glo "_law_served", .glo "_law_is_plan", .glo "law", .free "isinstance", .free "int", .free "bool", .free "tuple", .free "len", .free "all", .free "zip", .free "sum", .free "range", .free "min", .free "abs", .free "list", .free "str", .free "sorted", .free "max", .free "dict", .int "VALUES" 5000, .int "KINDS" 12, .int "FEW" 5, .int "HOLD" 12, .int "PAYERS" 8, .int "PRICE" 1000, .int "STATES" 3000, .glo "InvalidCoins", .glo "InvalidDebts"] : List He.Fa) ++ ([.glo "InvalidHeap", .glo "InvalidPaper", .glo "TooMany", .exc "InvalidCoins", .exc "InvalidHeap", .exc "InvalidDebts", .exc "InvalidPaper"] : List He.Fa)
def tsm : List He.Tab := []
def exl (K : PySem.W.Frag) : List Bool := [tabX K tfs]
def ex (K : PySem.W.Frag) : Bool := allB (exl K)
theorem fx_of {w : World} {K : PySem.W.Frag} {h : Heap} {mg : Str → Option Value} (X : K.In h) (G : h.Ns mainGlobals mg) (c : He.SaysD fa fn K) (m : allB (exl K) = true) : Fx K mg :=
  ⟨fn1_of X G c 0 0 rfl rfl,
  fn1_of X G c 1 1 rfl rfl,
  fn1_of X G c 2 2 rfl rfl,
  fn1_of X G c 3 3 rfl rfl,
  fn1_of X G c 4 4 rfl rfl,
  fn1_of X G c 5 5 rfl rfl,
  fn1_of X G c 6 6 rfl rfl,
  fn1_of X G c 7 7 rfl rfl,
  fn1_of X G c 8 8 rfl rfl,
  fn1_of X G c 9 9 rfl rfl,
  fn1_of X G c 10 10 rfl rfl,
  fn1_of X G c 11 11 rfl rfl,
  fn1_of X G c 12 12 rfl rfl,
  fn1_of X G c 13 13 rfl rfl,
  fn1_of X G c 14 14 rfl rfl,
  fn1_of X G c 15 15 rfl rfl,
  fn1_of X G c 16 16 rfl rfl,
  fn1_of X G c 17 17 rfl rfl,
  fn1_of X G c 18 18 rfl rfl,
  fn1_of X G c 19 19 rfl rfl,
  fn1_of X G c 20 20 rfl rfl,
  fn1_of X G c 21 21 rfl rfl,
  fn1_of X G c 22 22 rfl rfl,
  fn1_of X G c 23 23 rfl rfl,
  fn1_of X G c 24 24 rfl rfl,
  fn1_of X G c 25 25 rfl rfl,
  fn1_of X G c 26 26 rfl rfl,
  fn1_of X G c 27 27 rfl rfl,
  fn1_of X G c 28 28 rfl rfl,
  fn1_of X G c 29 29 rfl rfl,
  fn1_of X G c 30 30 rfl rfl,
  fn1_of X G c 31 31 rfl rfl,
  fn1_of X G c 32 32 rfl rfl,
  fn1_of X G c 33 33 rfl rfl,
  fn1_of X G c 34 34 rfl rfl,
  He.free_ok X G (c.fact 35 (f := .free "isinstance") rfl),
  He.free_ok X G (c.fact 36 (f := .free "int") rfl),
  He.free_ok X G (c.fact 37 (f := .free "bool") rfl),
  He.free_ok X G (c.fact 38 (f := .free "tuple") rfl),
  He.free_ok X G (c.fact 39 (f := .free "len") rfl),
  He.free_ok X G (c.fact 40 (f := .free "all") rfl),
  He.free_ok X G (c.fact 41 (f := .free "zip") rfl),
  He.free_ok X G (c.fact 42 (f := .free "sum") rfl),
  He.free_ok X G (c.fact 43 (f := .free "range") rfl),
  He.free_ok X G (c.fact 44 (f := .free "min") rfl),
  He.free_ok X G (c.fact 45 (f := .free "abs") rfl),
  He.free_ok X G (c.fact 46 (f := .free "list") rfl),
  He.free_ok X G (c.fact 47 (f := .free "str") rfl),
  He.free_ok X G (c.fact 48 (f := .free "sorted") rfl),
  He.free_ok X G (c.fact 49 (f := .free "max") rfl),
  He.free_ok X G (c.fact 50 (f := .free "dict") rfl),
  He.int_ok X G (c.fact 51 (f := .int "VALUES" 5000) rfl),
  He.int_ok X G (c.fact 52 (f := .int "KINDS" 12) rfl),
  He.int_ok X G (c.fact 53 (f := .int "FEW" 5) rfl),
  He.int_ok X G (c.fact 54 (f := .int "HOLD" 12) rfl),
  He.int_ok X G (c.fact 55 (f := .int "PAYERS" 8) rfl),
  He.int_ok X G (c.fact 56 (f := .int "PRICE" 1000) rfl),
  He.int_ok X G (c.fact 57 (f := .int "STATES" 3000) rfl),
  He.glo_ok X G (c.fact 58 (f := .glo "InvalidCoins") rfl),
  He.glo_ok X G (c.fact 59 (f := .glo "InvalidDebts") rfl),
  He.glo_ok X G (c.fact 60 (f := .glo "InvalidHeap") rfl),
  He.glo_ok X G (c.fact 61 (f := .glo "InvalidPaper") rfl),
  He.glo_ok X G (c.fact 62 (f := .glo "TooMany") rfl),
  excK_of X G (c.fact 58 (f := .glo "InvalidCoins") rfl) (c.fact 63 (f := .exc "InvalidCoins") rfl),
  excK_of X G (c.fact 60 (f := .glo "InvalidHeap") rfl) (c.fact 64 (f := .exc "InvalidHeap") rfl),
  excK_of X G (c.fact 59 (f := .glo "InvalidDebts") rfl) (c.fact 65 (f := .exc "InvalidDebts") rfl),
  excK_of X G (c.fact 61 (f := .glo "InvalidPaper") rfl) (c.fact 66 (f := .exc "InvalidPaper") rfl),
  allB_at m 0 rfl⟩
abbrev R : PySem.W.OpenRow := PySem.W.OpenLaw.row PySem.Challenge.rw_coinmaster_k96_whole_queues_served
abbrev tfd : List He.Defn := tfs.map fun x => (x, none)
abbrev hk : PySem.W.Hook := He.hookX 4 fa fn tsm tfd ex
def ob (s : PySem.W.SharedT) : He.AlX := He.obsX 4 fa fn tsm tfd ex (HandSHeadRun.getT s)
theorem ob_eq (s : PySem.W.SharedT) : ob s = hk.obs s.abs := He.obsX_eq (HandSHeadRun.getT_eq s)
def loose : List Str := (["MintError", "InvalidCoins", "InvalidHeap", "InvalidDebts", "InvalidPaper", "TooMany", "VALUES", "KINDS", "is_whole", "fits_whole", "is_tuple_of", "is_rising", "fits_coins", "need_coins", "sum_in", "FEW", "HOLD", "PAYERS", "PRICE", "STATES", "need_few", "fits_till", "fits_payer", "fits_payers", "need_queue", "with_given", "without", "changes", "layers_in", "plan_in"] : List Str) ++ (["fits_plan", "served_many", "change_plan", "is_plan", "till_behind", "tills_many", "_law_cup", "_law_roll", "_law_some", "_law_same", "_law_coins", "_law_sum", "_law_payers", "_law_heaps", "_law_tills", "_law_served", "_law_is_plan"] : List Str)
theorem run (w : World) : HandSHeadRun.RunEq R (PySem.W.view R.prog [51]) hk ob 4000 loose w := by
  intro os
  kernel_rfl
end K96
open PySem PySem.W PySem.Calls PyProof.Rows
theorem PySem.Challenge.cw_coinmaster_k96_whole_queues_served_holds : PySem.Challenge.rw_coinmaster_k96_whole_queues_served.Holds := by
  w_on; o_law
  refine HandSHeadRun.head_any (r := OpenLaw.row PySem.Challenge.rw_coinmaster_k96_whole_queues_served) (q := view (OpenLaw.row PySem.Challenge.rw_coinmaster_k96_whole_queues_served).prog [51]) (H := K96.hk) (ob := K96.ob) (M := 4000) (loose := K96.loose) (d := HandSHeadRun.topDef (OpenLaw.row PySem.Challenge.rw_coinmaster_k96_whole_queues_served).prog 51) (kwd := []) K96.ob_eq
    (by kernel_rfl) (fun s => by kernel_rfl) K96.run (by kernel_rfl) (by kernel_rfl) (by kernel_rfl) (by rfl) (by first | assumption | decide +kernel) (by decide +kernel) ⟨rfl, rfl, rfl, rfl, rfl, by decide +kernel⟩ ?hw ?hc
  case hw => w_witness2
  case hc =>
    refine LamX.walk_ofTsE (l := PySem.Challenge.rw_coinmaster_k96_whole_queues_served) (n := 63) (k := 8) (x := "script") (CX := fun _ => C8.CX0) rfl (by decide) (by kernel_rfl) ⟨rfl, by decide, by decide⟩ ?F (fun _ _ _ _ _ z => z)
    intro w mg fa h Y G hmg0
    obtain ⟨K, KX, c⟩ := Y
    have hmg : mg ("law" : PySem.Str) = some (.ref fa) := by
      have e : (HandSHeadRun.topDef (OpenLaw.row PySem.Challenge.rw_coinmaster_k96_whole_queues_served).prog 51).name = ("law" : PySem.Str) := by kernel_rfl
      rw [← e]
      exact hmg0
    have S := K96.fx_of (w := w) KX G c.t.d c.more
    obtain ⟨fd, F⟩ := S.f_law.f
    have e := hmg.symm.trans S.f_law.g
    cases e
    have b := L2.FunD.bindsA (ps := ["script"]) F fun _ _ _ _ _ _ us hl => match us, hl with | [_], _ => rfl
    exact ⟨K, KX, Dn.law_atS KX c S.tab (fun s v => b s [v] rfl) K96.law_true (fun base _ _ T => K96.law_fn S T F)⟩
