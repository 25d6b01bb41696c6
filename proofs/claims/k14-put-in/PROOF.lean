import PyProof.Rows.All
import Wide.All
import OpenK.AllK
import Wide.FinOn
import HandS.ForMost
import HandS.Lambda
import HandS.TupAny
import HandS.StrMore
import HandS.Style
import HandS.Deep
import HandS.IsInst
import HandS.Iter
import HandS.SortKw
import HandS.Strs
import KE.SortKeyHeap
import KE.SortData
import HandS.Ends
import HandS.Defaults
import HandS.Head0
import HandS.Head1
import HandS.Head2
import HandS.HeadEnd
import HandS.HeadHook1
import HandS.HeadHook2
import HandS.HeadHook4
import HandS.NoneIn
import PyProof.StrBlock2
import HandS.Conv
import HandS.More
import HandS.SortInts
import HandS.TupMul
import HandS.HotCalls
import HandS.ExcIs
import HandS.ExcCtx
import HandS.Comp
import HandS.ExcOwn
import KE.KLam
import PyProof.Rows.TupSub
import PyProof.Rows.SeqItemCall
import PyProof.Draws
import PyProof.EnumMake
import PyProof.EnumStmt
import HandS.TryMany
import HandS.HeadWalk
import HandS.EndTab
import HandS.NestedK
import HandS.DictComp
import PySem.Challenge.RW_tonguenest_k14_whole_put_in_by_fewest_es
set_option Elab.async false
set_option linter.all false
set_option maxRecDepth 100000
set_option maxHeartbeats 8000000
/-! Y: data, frozen and owned, over the abstract heap; environments of slots. -/
namespace Y
open PySem L2
/-- the tables of code objects that lambdas are made by, each with the name that its code objects bear -/
class TabC where
  T : List (Addr × Str)
variable [TabC]

/-- plain data -/
inductive D where
  | non | bl (b : Bool) | int (i : Int) | str (s : List Nat) | tup (xs : List D) | lst (xs : List D) | dic (kvs : List (D × D)) | scr (ns : List Int)

def keyD : Key → D
  | .inl i => .int i
  | .inr x => .str x.cps.toList

/-- the written part, and where the classes stand, by numbers -/
structure Kx where
  K : PySem.W.Frag
  ca : Nat → Addr

mutual
inductive DV (K : Kx) (F : Hp) : V → D → Prop
  | non : DV K F .non .non
  | bl (b : Bool) : DV K F (.bl b) (.bl b)
  | int (i : Int) : DV K F (.int i) (.int i)
  | str (x : Str) : DV K F (.str x) (.str x.cps.toList)
  | tup {a : Addr} {xs : List V} {ds : List D} : SqT K.K F a xs → DVs K F xs ds → DV K F (.ref a) (.tup ds)
  | lst {a : Addr} {xs : List V} {ds : List D} : F a = some (.lst xs) → DVs K F xs ds → DV K F (.ref a) (.lst ds)
  | scr {a : Addr} {ns : List Int} : SqL K.K F a (ns.map V.int) → DV K F (.ref a) (.scr ns)
  | dic {a : Addr} {kvs : List (Key × V)} {kds : List (D × D)} : Rd F a (.dK kvs) → DVk K F kvs kds → DV K F (.ref a) (.dic kds)
inductive DVs (K : Kx) (F : Hp) : List V → List D → Prop
  | nil : DVs K F [] []
  | cons {v : V} {vs : List V} {d : D} {ds : List D} : DV K F v d → DVs K F vs ds → DVs K F (v :: vs) (d :: ds)
inductive DVk (K : Kx) (F : Hp) : List (Key × V) → List (D × D) → Prop
  | nil : DVk K F [] []
  | cons {k : Key} {v : V} {d : D} {kvs : List (Key × V)} {kds : List (D × D)} : DV K F v d → DVk K F kvs kds → DVk K F ((k, v) :: kvs) ((keyD k, d) :: kds)
end

section
variable {K : Kx} {F F' H H' : Hp}
theorem Rd.mono {a : Addr} {u : HO} (e : Same F F') (h : Rd F a u) : Rd F' a u := by
  rcases h with h | ⟨o, h⟩
  · exact .inl (e _ _ h)
  · exact .inr ⟨o, e _ _ h⟩
theorem SqL.mono {a : Addr} {xs : List V} (e : Same F F') (h : SqL K.K F a xs) : SqL K.K F' a xs := e.seq h
theorem SqT.mono {a : Addr} {xs : List V} (e : Same F F') (h : SqT K.K F a xs) : SqT K.K F' a xs := by
  rcases h with h | h
  · exact .inl (Rd.mono e h)
  · exact .inr h
mutual
theorem DV.mono (e : Same F F') : ∀ {v : V} {d : D}, DV K F v d → DV K F' v d
  | _, _, .non => .non
  | _, _, .bl b => .bl b
  | _, _, .int i => .int i
  | _, _, .str x => .str x
  | _, _, .tup h hs => .tup (SqT.mono e h) (DVs.mono e hs)
  | _, _, .lst h hs => .lst (e _ _ h) (DVs.mono e hs)
  | _, _, .scr h => .scr (SqL.mono e h)
  | _, _, .dic h hs => .dic (Rd.mono e h) (DVk.mono e hs)
theorem DVs.mono (e : Same F F') : ∀ {v : List V} {d : List D}, DVs K F v d → DVs K F' v d
  | _, _, .nil => .nil
  | _, _, .cons h hs => .cons (DV.mono e h) (DVs.mono e hs)
theorem DVk.mono (e : Same F F') : ∀ {v : List (Key × V)} {d : List (D × D)}, DVk K F v d → DVk K F' v d
  | _, _, .nil => .nil
  | _, _, .cons h hs => .cons (DV.mono e h) (DVk.mono e hs)
end
theorem DVs.length : ∀ {vs : List V} {ds : List D}, DVs K F vs ds → vs.length = ds.length
  | _, _, .nil => rfl
  | _, _, .cons _ hs => congrArg (· + 1) (DVs.length hs)
theorem DVs.get : ∀ {vs : List V} {ds : List D}, DVs K F vs ds → ∀ {i : Nat} {d : D}, ds[i]? = some d → ∃ v, vs[i]? = some v ∧ DV K F v d
  | _, _, .nil, i, d, h => by simp at h
  | _, _, .cons h hs, 0, d, e => by
    simp at e
    subst e
    exact ⟨_, rfl, h⟩
  | _, _, .cons h hs, i + 1, d, e => by
    obtain ⟨v, h1, h2⟩ := DVs.get hs (i := i) (d := d) (by simpa using e)
    exact ⟨v, by simpa using h1, h2⟩
theorem DVs.getv : ∀ {vs : List V} {ds : List D}, DVs K F vs ds → ∀ {i : Nat} {v : V}, vs[i]? = some v → ∃ d, ds[i]? = some d ∧ DV K F v d
  | _, _, .nil, i, d, h => by simp at h
  | _, _, .cons h hs, 0, d, e => by
    simp at e
    subst e
    exact ⟨_, rfl, h⟩
  | _, _, .cons h hs, i + 1, d, e => by
    obtain ⟨v, h1, h2⟩ := DVs.getv hs (i := i) (v := d) (by simpa using e)
    exact ⟨v, by simpa using h1, h2⟩
theorem DVs.append : ∀ {vs ws : List V} {ds es : List D}, DVs K F vs ds → DVs K F ws es → DVs K F (vs ++ ws) (ds ++ es)
  | _, _, _, _, .nil, h => h
  | _, _, _, _, .cons h hs, h2 => .cons h (DVs.append hs h2)
theorem DVs.one {v : V} {d : D} (h : DV K F v d) : DVs K F [v] [d] := .cons h .nil
theorem DVs.take : ∀ {vs : List V} {ds : List D} (n : Nat), DVs K F vs ds → DVs K F (vs.take n) (ds.take n)
  | _, _, 0, _ => .nil
  | _, _, _ + 1, .nil => .nil
  | _, _, n + 1, .cons h hs => .cons h (DVs.take n hs)
theorem DVs.drop : ∀ {vs : List V} {ds : List D} (n : Nat), DVs K F vs ds → DVs K F (vs.drop n) (ds.drop n)
  | _, _, 0, h => h
  | _, _, _ + 1, .nil => .nil
  | _, _, n + 1, .cons h hs => DVs.drop n hs
theorem DVs.reverse : ∀ {vs : List V} {ds : List D}, DVs K F vs ds → DVs K F vs.reverse ds.reverse
  | _, _, .nil => .nil
  | _, _, .cons h hs => by
    rw [List.reverse_cons, List.reverse_cons]
    exact DVs.append (DVs.reverse hs) (DVs.one h)
theorem DVs.set {v : V} {d : D} (h : DV K F v d) : ∀ {vs : List V} {ds : List D} (i : Nat), DVs K F vs ds → DVs K F (vs.set i v) (ds.set i d)
  | _, _, _, .nil => .nil
  | _, _, 0, .cons _ hs => .cons h hs
  | _, _, i + 1, .cons h' hs => .cons h' (DVs.set h i hs)
theorem DVs.dropLast {vs : List V} {ds : List D} (h : DVs K F vs ds) : DVs K F vs.dropLast ds.dropLast := by
  rw [List.dropLast_eq_take, List.dropLast_eq_take, h.length]
  exact h.take _
/-- no part of it stands in the heap -/
def scal : D → Bool
  | .non | .bl _ | .int _ | .str _ => true
  | _ => false
theorem DV.scal {v : V} {d : D} (h : DV K F v d) (s : scal d = true) : DV K F' v d := by
  cases h with
  | non => exact .non
  | bl b => exact .bl b
  | int i => exact .int i
  | str x => exact .str x
  | tup _ _ => cases s
  | lst _ _ => cases s
  | dic _ _ => cases s
  | scr _ => cases s
theorem DV.int_inv {v : V} {i : Int} (h : DV K F v (.int i)) : v = .int i := by cases h; rfl
theorem DV.bl_inv {v : V} {b : Bool} (h : DV K F v (.bl b)) : v = .bl b := by cases h; rfl
theorem DV.non_inv {v : V} (h : DV K F v .non) : v = .non := by cases h; rfl
theorem DV.str_inv {v : V} {l : List Nat} (h : DV K F v (.str l)) : ∃ x, v = .str x ∧ x.cps.toList = l := by cases h; exact ⟨_, rfl, rfl⟩
theorem DV.str_inv' {v : V} {l : List Nat} (h : DV K F v (.str l)) : v = .str ⟨l.toArray⟩ := by
  obtain ⟨x, rfl, rfl⟩ := h.str_inv
  rfl
theorem DV.str' (l : List Nat) : DV K F (.str ⟨l.toArray⟩) (.str l) := by
  have h := DV.str (K := K) (F := F) ⟨l.toArray⟩
  simpa using h
theorem DV.tup_inv {v : V} {ds : List D} (h : DV K F v (.tup ds)) : ∃ a xs, v = .ref a ∧ SqT K.K F a xs ∧ DVs K F xs ds := by cases h with | tup a b => exact ⟨_, _, rfl, a, b⟩
theorem DV.lst_inv {v : V} {ds : List D} (h : DV K F v (.lst ds)) : ∃ a xs, v = .ref a ∧ F a = some (.lst xs) ∧ DVs K F xs ds := by cases h with | lst a b => exact ⟨_, _, rfl, a, b⟩
theorem DV.scr_inv {v : V} {ns : List Int} (h : DV K F v (.scr ns)) : ∃ a, v = .ref a ∧ SqL K.K F a (ns.map V.int) := by cases h with | scr a => exact ⟨_, rfl, a⟩
theorem DV.dic_inv {v : V} {ds : List (D × D)} (h : DV K F v (.dic ds)) : ∃ a xs, v = .ref a ∧ Rd F a (.dK xs) ∧ DVk K F xs ds := by cases h with | dic a b => exact ⟨_, _, rfl, a, b⟩
end

/-! ### owned trees -/
inductive M where
  | dat (d : D) | lst (ms : List M) | dic (kds : List (D × D)) | obj (c : Nat) (fs : List (Str × M))

mutual
inductive Own (K : Kx) (F H : Hp) : V → M → List Addr → Prop
  | dat {v : V} {d : D} : DV K F v d → Own K F H v (.dat d) []
  | lst {a : Addr} {vs : List V} {ms : List M} {as : List Addr} : H a = some (.lst vs) → F a = none → Owns K F H vs ms as → a ∉ as → Own K F H (.ref a) (.lst ms) (a :: as)
  | dic {a : Addr} {kvs : List (Key × V)} {kds : List (D × D)} : H a = some (.dK kvs) → F a = none → DVk K F kvs kds → Own K F H (.ref a) (.dic kds) [a]
  | obj {a dx : Addr} {c : Nat} {fvs : List (Str × V)} {fs : List (Str × M)} {as : List Addr} : H a = some (.ins (K.ca c) dx fvs) → H dx = some (.own a) → F a = none → F dx = none → fvs.map (·.1) = fs.map (·.1) →
      Owns K F H (fvs.map (·.2)) (fs.map (·.2)) as → a ∉ as → dx ∉ as → a ≠ dx → Own K F H (.ref a) (.obj c fs) (a :: dx :: as)
inductive Owns (K : Kx) (F H : Hp) : List V → List M → List Addr → Prop
  | nil : Owns K F H [] [] []
  | cons {v : V} {vs : List V} {m : M} {ms : List M} {as bs : List Addr} : Own K F H v m as → Owns K F H vs ms bs → (∀ a ∈ as, a ∉ bs) → Owns K F H (v :: vs) (m :: ms) (as ++ bs)
end

/-- the tables tell code objects, and none of them is frozen -/
def TabOk (F H : Hp) : Prop := LamX.Tabs TabC.T H ∧ ∀ p ∈ TabC.T, F p.1 = none
/-- what a step does: F what is frozen, H what stands; as what may be changed ahead of it, as' behind it -/
structure Gr (F H : Hp) (as : List Addr) (F' H' : Hp) (as' : List Addr) : Prop where
  ff : Same F F'
  fh : Same F' H'
  hx : ∀ a o, H a = some o → a ∉ as → (∀ ps, o ≠ .tbl ps) → H' a = some o
  nw : ∀ a, a ∈ as' → a ∈ as ∨ H a = none
  fz : ∀ a, F a = none → H a ≠ none → a ∉ as → F' a = none
  th : ∀ a ps, H a = some (.tbl ps) → a ∉ as → ∃ qs, H' a = some (.tbl qs)
  tb : TabOk F H → TabOk F' H'

section
variable {K : Kx} {F F' F1 F2 H H' H1 H2 : Hp} {as as' as1 as2 bs cs : List Addr}
theorem tbl_or (o : HO) : (∃ ps, o = .tbl ps) ∨ ∀ ps, o ≠ .tbl ps := by
  cases o with
  | tbl ps => exact .inl ⟨ps, rfl⟩
  | _ => exact .inr fun _ z => nomatch z
theorem Gr.hh (g : Gr F H as F1 H1 as1) (a : Addr) (o : HO) (h : H a = some o) (n : a ∉ as) (t : ∀ ps, o ≠ .tbl ps := by intro _ z; cases z) : H1 a = some o := g.hx a o h n t
theorem Gr.refl (h : Same F H) : Gr F H as F H as := ⟨.refl _, h, fun _ _ e _ _ => e, fun _ e => .inl e, fun _ e _ _ => e, fun _ _ e _ => ⟨_, e⟩, fun t => t⟩
theorem Gr.out (g : Gr F H as F1 H1 as1) {a : Addr} (h1 : H a ≠ none) (h2 : a ∉ as) : a ∉ as1 := fun z => (g.nw a z).elim h2 h1
theorem Gr.there (g : Gr F H as F1 H1 as1) {a : Addr} (h1 : H a ≠ none) (h2 : a ∉ as) : H1 a ≠ none := by
  cases e : H a with
  | none => exact absurd e h1
  | some o =>
    rcases tbl_or o with ⟨ps, rfl⟩ | t
    · obtain ⟨qs, q⟩ := g.th a ps e h2
      rw [q]
      simp
    · rw [g.hx a o e h2 t]
      simp
theorem Gr.back0 (g : Gr F H as F1 H1 as1) {a : Addr} (h2 : a ∉ as) (h : H1 a = none) : H a = none := by
  cases e : H a with
  | none => rfl
  | some o => exact absurd h (g.there (by rw [e]; simp) h2)
/-- one behind the other, what may be changed told anew -/
theorem Gr.comp {bs' : List Addr} (g : Gr F H as F1 H1 as1) (k : Gr F1 H1 bs F2 H2 bs') (c : ∀ a, H a ≠ none → a ∉ as → a ∉ bs) (nw : ∀ a, a ∈ cs → a ∈ as ∨ H a = none) (fz : ∀ a, F a = none → H a ≠ none → a ∉ as → F2 a = none) : Gr F H as F2 H2 cs :=
  ⟨g.ff.trans k.ff, k.fh, fun a o e n t => k.hx a o (g.hx a o e n t) (c a (by rw [e]; simp) n) t, nw, fz, fun a ps e n => by
    obtain ⟨qs, q⟩ := g.th a ps e n
    exact k.th a qs q (c a (by rw [e]; simp) n), fun t => k.tb (g.tb t)⟩
theorem Gr.trans (g : Gr F H as F1 H1 as1) (k : Gr F1 H1 as1 F2 H2 as2) : Gr F H as F2 H2 as2 := by
  refine g.comp k (fun a h n => g.out h n) (fun a z => ?_) (fun a e h n => ?_)
  · by_cases q : a ∈ as
    · exact .inl q
    · by_cases h : H a = none
      · exact .inr h
      · rcases k.nw a z with y | y
        · exact absurd y (g.out h q)
        · exact absurd y (g.there h q)
  · exact k.fz a (g.fz a e h n) (g.there h n) (g.out h n)
/-- the same heaps, what is frozen and what may be changed told anew -/
theorem Gr.re {bs' : List Addr} (g : Gr F H as F1 H1 as1) (ff : Same F F2) (fh : Same F2 H1) (h : ∀ a, a ∈ as → a ∈ bs) (nw : ∀ a, a ∈ bs' → a ∈ bs ∨ H a = none) (fz : ∀ a, F a = none → H a ≠ none → a ∉ bs → F2 a = none) (ht : TabOk F1 H1 → TabOk F2 H1 := by exact fun t => t) : Gr F H bs F2 H1 bs' :=
  ⟨ff, fh, fun a o e n t => g.hx a o e (fun z => n (h a z)) t, nw, fz, fun a ps e n => g.th a ps e fun z => n (h a z), fun t => ht (g.tb t)⟩
/-- the heap stays, more is frozen -/
theorem Gr.frz' (ff : Same F F1) (fh : Same F1 H) (nw : ∀ a, a ∈ as1 → a ∈ as ∨ H a = none) (fz : ∀ a, F a = none → H a ≠ none → a ∉ as → F1 a = none) (ht : TabOk F H → TabOk F1 H) : Gr F H as F1 H as1 :=
  ⟨ff, fh, fun _ _ e _ _ => e, nw, fz, fun _ _ e _ => ⟨_, e⟩, ht⟩
theorem Gr.weak (g : Gr F H [] F1 H1 []) (as : List Addr) : Gr F H as F1 H1 as :=
  g.re g.ff g.fh (by simp) (fun _ z => .inl z) (fun a e h _ => g.fz a e h (by simp))
/-- less is left to be changed -/
theorem Gr.less (g : Gr F H as F1 H1 as1) (h : ∀ a, a ∈ as2 → a ∈ as1) : Gr F H as F1 H1 as2 := g.re g.ff g.fh (fun _ z => z) (fun a z => g.nw a (h a z)) g.fz
theorem Gr.more (g : Gr F H as F1 H1 as1) (h : ∀ a, a ∈ as → a ∈ bs) (h2 : ∀ a, a ∈ as1 → a ∈ as2) (h3 : ∀ a, a ∈ as2 → a ∈ as1 ∨ a ∈ bs) : Gr F H bs F1 H1 as2 :=
  g.re g.ff g.fh h (fun a z => (h3 a z).elim (fun y => (g.nw a y).imp (h a) id) .inl) (fun a e q n => g.fz a e q (fun z => n (h a z)))
theorem Gr.lift {ms ms' : List Addr} (g : Gr F H ms F1 H1 ms') (h : ∀ a, a ∈ ms → a ∈ as) (h2 : ∀ a, a ∈ as1 → a ∈ as ∨ a ∈ ms') : Gr F H as F1 H1 as1 :=
  g.re g.ff g.fh h (fun a z => (h2 a z).elim .inl fun y => (g.nw a y).imp (h a) id) (fun a e q n => g.fz a e q (fun z => n (h a z)))
theorem TabOk.upd {a : Addr} {o : HO} (h : H a = none) (t : LamX.Tabs TabC.T H) : LamX.Tabs TabC.T (upd H a o) ∧ ∀ p ∈ TabC.T, p.1 ≠ a := by
  refine ⟨fun p hp => (t p hp).ext fun b u e => by rw [upd_ne (ne_of_none e h)]; exact e, fun p hp z => ?_⟩
  obtain ⟨ps, h1, _⟩ := t p hp
  rw [z, h] at h1
  cases h1
theorem tabs_upd {a : Addr} {o : HO} (h : H a = none) {P : Addr} {q : Str} (t : LamX.TabS H P q) : LamX.TabS (upd H a o) P q := t.ext fun b u e => by rw [upd_ne (ne_of_none e h)]; exact e
/-- a new frozen object -/
theorem Gr.newF {a : Addr} {o : HO} (hs : Same F H) (h : H a = none) : Gr F H [] (upd F a o) (upd H a o) [] := by
  have fa : F a = none := hs.free h
  refine ⟨fun b u e => by rw [upd_ne (ne_of_none e fa)]; exact e, fun b u e => ?_, fun b u e _ _ => by rw [upd_ne (ne_of_none e h)]; exact e, fun _ z => (by simp at z), fun b e q _ => ?_, fun b ps e _ => ⟨ps, by rw [upd_ne (ne_of_none e h)]; exact e⟩, fun t => ⟨(TabOk.upd h t.1).1, fun p hp => by rw [upd_ne ((TabOk.upd (o := o) h t.1).2 p hp)]; exact t.2 p hp⟩⟩
  · by_cases hb : b = a
    · subst hb
      rw [upd_same] at e ⊢
      exact e
    · rw [upd_ne hb] at e ⊢
      exact hs _ _ e
  · have hb : b ≠ a := fun z => q (by rw [z]; exact h)
    rw [upd_ne hb]
    exact e
/-- a new object, not frozen -/
theorem Gr.new {a : Addr} {o : HO} (hs : Same F H) (h : H a = none) : Gr F H [] F (upd H a o) [a] := by
  have fa : F a = none := hs.free h
  refine ⟨.refl _, fun b u e => by rw [upd_ne (ne_of_none e fa)]; exact hs _ _ e, fun b u e _ _ => by rw [upd_ne (ne_of_none e h)]; exact e, fun b z => ?_, fun b e q _ => e, fun b ps e _ => ⟨ps, by rw [upd_ne (ne_of_none e h)]; exact e⟩, fun t => ⟨(TabOk.upd h t.1).1, t.2⟩⟩
  rw [List.mem_singleton] at z
  exact .inr (by rw [z]; exact h)
/-- no table, no code object -/
def plain : HO → Bool
  | .tbl _ | .ext _ => false
  | _ => true
/-- an owned object is changed -/
theorem Gr.mut {a : Addr} {o u : HO} (hs : Same F H) (h : F a = none) (ha : a ∈ as) (hu : H a = some u := by assumption) (hp : plain u = true := by rfl) : Gr F H as F (upd H a o) as :=
  ⟨.refl _, fun b u e => by rw [upd_ne (ne_of_none e h)]; exact hs _ _ e, fun b u e n _ => by rw [upd_ne (fun z => n (by rw [z]; exact ha))]; exact e, fun _ z => .inl z, fun _ e _ _ => e,
    fun b ps e n => ⟨ps, by rw [upd_ne (fun z => n (by rw [z]; exact ha))]; exact e⟩, fun t => ⟨fun p hp => by
      obtain ⟨ps, h1, h2, h3⟩ := t.1 p hp
      have n1 : p.1 ≠ a := fun z => by rw [z, hu] at h1; cases h1; cases hp
      refine ⟨ps, by rw [upd_ne n1]; exact h1, h2, fun pos cv hc => ?_⟩
      obtain ⟨c, e1, e2⟩ := h3 pos cv hc
      refine ⟨c, e1, ?_⟩
      have n2 : c ≠ a := fun z => by rw [z, hu] at e2; cases e2; cases hp
      rw [upd_ne n2]
      exact e2, t.2⟩⟩

mutual
theorem Own.has : ∀ {v : V} {m : M} {bs : List Addr}, Own K F H v m bs → ∀ b ∈ bs, H b ≠ none ∧ F b = none
  | _, _, _, .dat _, b, hb => by simp at hb
  | _, _, _, .lst h f hs _, b, hb => by
    rcases List.mem_cons.mp hb with e | hb
    · rw [e]
      exact ⟨by rw [h]; simp, f⟩
    · exact Owns.has hs b hb
  | _, _, _, .dic h f _, b, hb => by
    rw [List.mem_singleton] at hb
    rw [hb]
    exact ⟨by rw [h]; simp, f⟩
  | _, _, _, .obj h hd f fd _ hs _ _ _, b, hb => by
    rcases List.mem_cons.mp hb with e | hb
    · rw [e]
      exact ⟨by rw [h]; simp, f⟩
    · rcases List.mem_cons.mp hb with e | hb
      · rw [e]
        exact ⟨by rw [hd]; simp, fd⟩
      · exact Owns.has hs b hb
theorem Owns.has : ∀ {v : List V} {m : List M} {bs : List Addr}, Owns K F H v m bs → ∀ b ∈ bs, H b ≠ none ∧ F b = none
  | _, _, _, .nil, b, hb => by simp at hb
  | _, _, _, .cons h hs _, b, hb => by
    rcases List.mem_append.mp hb with hb | hb
    · exact Own.has h b hb
    · exact Owns.has hs b hb
end
mutual
theorem Own.frame (g : Gr F H as F' H' as') : ∀ {v : V} {m : M} {bs : List Addr}, Own K F H v m bs → (∀ b ∈ bs, b ∉ as) → Own K F' H' v m bs
  | _, _, _, .dat h, _ => .dat (h.mono g.ff)
  | _, _, _, .lst h f hs n, q => .lst (g.hh _ _ h (q _ List.mem_cons_self)) (g.fz _ f (by rw [h]; simp) (q _ List.mem_cons_self)) (Owns.frame g hs fun b hb => q b (List.mem_cons_of_mem _ hb)) n
  | _, _, _, .dic h f hs, q => .dic (g.hh _ _ h (q _ List.mem_cons_self)) (g.fz _ f (by rw [h]; simp) (q _ List.mem_cons_self)) (hs.mono g.ff)
  | _, _, _, .obj h hd f fd e hs n1 n2 n3, q => .obj (g.hh _ _ h (q _ List.mem_cons_self)) (g.hh _ _ hd (q _ (List.mem_cons_of_mem _ List.mem_cons_self))) (g.fz _ f (by rw [h]; simp) (q _ List.mem_cons_self))
      (g.fz _ fd (by rw [hd]; simp) (q _ (List.mem_cons_of_mem _ List.mem_cons_self))) e (Owns.frame g hs fun b hb => q b (List.mem_cons_of_mem _ (List.mem_cons_of_mem _ hb))) n1 n2 n3
theorem Owns.frame (g : Gr F H as F' H' as') : ∀ {v : List V} {m : List M} {bs : List Addr}, Owns K F H v m bs → (∀ b ∈ bs, b ∉ as) → Owns K F' H' v m bs
  | _, _, _, .nil, _ => .nil
  | _, _, _, .cons h hs n, q => .cons (Own.frame g h fun b hb => q b (List.mem_append_left _ hb)) (Owns.frame g hs fun b hb => q b (List.mem_append_right _ hb)) n
end
theorem Own.grow (g : Gr F H [] F' H' []) {v : V} {m : M} {bs : List Addr} (h : Own K F H v m bs) : Own K F' H' v m bs := h.frame g (by simp)
theorem Owns.grow (g : Gr F H [] F' H' []) {v : List V} {m : List M} {bs : List Addr} (h : Owns K F H v m bs) : Owns K F' H' v m bs := h.frame g (by simp)
/-- what is owned stays apart -/
theorem Own.apart (g : Gr F H as F' H' as') {v : V} {m : M} {bs : List Addr} (h : Own K F H v m bs) (q : ∀ b ∈ bs, b ∉ as) : ∀ b ∈ bs, b ∉ as' := fun b hb => g.out (h.has b hb).1 (q b hb)
theorem Owns.apart (g : Gr F H as F' H' as') {v : List V} {m : List M} {bs : List Addr} (h : Owns K F H v m bs) (q : ∀ b ∈ bs, b ∉ as) : ∀ b ∈ bs, b ∉ as' := fun b hb => g.out (h.has b hb).1 (q b hb)
end

/-! ### the data that an owned tree shows -/
mutual
def M.view : M → Option D
  | .dat d => some d
  | .lst ms => (views ms).map D.lst
  | .dic kds => some (.dic kds)
  | .obj _ _ => none
def views : List M → Option (List D)
  | [] => some []
  | m :: ms => match M.view m, views ms with
    | some d, some ds => some (d :: ds)
    | _, _ => none
end
theorem views_dat : ∀ ds : List D, views (ds.map M.dat) = some ds
  | [] => rfl
  | d :: ds => by
    show (match M.view (.dat d), views (ds.map M.dat) with
    | some d, some ds => some (d :: ds)
    | _, _ => none) = some (d :: ds)
    rw [views_dat ds]
    rfl
/-- the heap with what stands at as frozen too -/
def isT : Option HO → Bool
  | some (.tbl _) => true
  | _ => false
def frz (F H : Hp) (as : List Addr) : Hp := fun a => if a ∈ as ∧ isT (H a) = false then H a else F a
section
variable {K : Kx} {F F' F1 F2 H H' H1 H2 : Hp} {as as' as1 as2 bs : List Addr}
theorem frz_in {a : Addr} (h : a ∈ as) (t : isT (H a) = false) : frz F H as a = H a := by unfold frz; rw [if_pos ⟨h, t⟩]
theorem frz_out {a : Addr} (h : a ∉ as) : frz F H as a = F a := by unfold frz; rw [if_neg fun z => h z.1]
theorem frz_tb {a : Addr} (h : isT (H a) = true) : frz F H as a = F a := by unfold frz; rw [if_neg fun z => by rw [h] at z; cases z.2]
theorem frz_same (hs : Same F H) : Same F (frz F H as) := fun a o e => by
  unfold frz
  split
  · exact hs _ _ e
  · exact e
theorem frz_le (hs : Same F H) : Same (frz F H as) H := fun a o e => by
  unfold frz at e
  split at e
  · exact e
  · exact hs _ _ e
theorem frz_tab (t : TabOk F H) : TabOk (frz F H as) H := ⟨t.1, fun p hp => by
  obtain ⟨ps, h, _⟩ := t.1 p hp
  rw [frz_tb (by rw [h]; rfl)]
  exact t.2 p hp⟩
theorem frz_gr (hs : Same F H) (h : ∀ a, a ∈ as → a ∈ bs) : Gr F H bs (frz F H as) H (bs.filter fun a => decide (a ∉ as)) :=
  .frz' (frz_same hs) (frz_le hs) (fun a z => .inl (List.mem_filter.mp z).1) (fun a e _ n => by rw [frz_out (fun z => n (h a z))]; exact e) frz_tab
mutual
theorem Own.freeze (hs : Same F H) : ∀ {v : V} {m : M} {as : List Addr} {d : D}, Own K F H v m as → m.view = some d → (∀ a ∈ as, a ∈ bs) → DV K (frz F H bs) v d
  | _, _, _, d, .dat h, e, _ => by
    simp only [M.view, Option.some.injEq] at e
    subst e
    exact h.mono (frz_same hs)
  | _, .lst ms, _, d, .lst (a := a) h f hv n, e, q => by
    simp only [M.view, Option.map_eq_some_iff] at e
    obtain ⟨ds, e1, rfl⟩ := e
    refine .lst ?_ (Owns.freeze hs hv e1 fun b hb => q b (List.mem_cons_of_mem _ hb))
    rw [frz_in (q _ List.mem_cons_self) (by rw [h]; rfl)]
    exact h
  | _, _, _, d, .dic h f hv, e, q => by
    simp only [M.view, Option.some.injEq] at e
    subst e
    refine .dic (.inl ?_) (hv.mono (frz_same hs))
    rw [frz_in (q _ List.mem_cons_self) (by rw [h]; rfl)]
    exact h
  | _, .obj C fs, _, d, .obj _ _ _ _ _ _ _ _ _, e, _ => by
    simp only [M.view] at e
    cases e
theorem Owns.freeze (hs : Same F H) : ∀ {v : List V} {m : List M} {as : List Addr} {d : List D}, Owns K F H v m as → views m = some d → (∀ a ∈ as, a ∈ bs) → DVs K (frz F H bs) v d
  | _, _, _, d, .nil, e, _ => by
    simp only [views, Option.some.injEq] at e
    subst e
    exact .nil
  | _, m :: ms, _, d, .cons h h2 n, e, q => by
    simp only [views] at e
    split at e
    · rename_i d1 ds1 e1 e2
      cases e
      exact .cons (Own.freeze hs h e1 fun b hb => q b (List.mem_append_left _ hb)) (Owns.freeze hs h2 e2 fun b hb => q b (List.mem_append_right _ hb))
    · cases e
end
theorem frz_all (hs : Same F H) : frz F H [] = F := by
  funext a
  exact frz_out (by simp)
/-- read for the moment -/
theorem Own.read (hs : Same F H) {v : V} {m : M} {as : List Addr} {d : D} (h : Own K F H v m as) (e : m.view = some d) : DV K H v d := (h.freeze hs e (bs := as) fun _ z => z).mono (frz_le hs)
end

/-! ### environments -/
abbrev Env := List (Option M)
inductive SO (K : Kx) (F H : Hp) : L2.St → Env → List Addr → Prop
  | nil : TabOk F H → SO K F H [] [] []
  | no {x : Option V} {σ : L2.St} {ρ : Env} {as : List Addr} : SO K F H σ ρ as → SO K F H (x :: σ) (none :: ρ) as
  | ow {v : V} {m : M} {as bs : List Addr} {σ : L2.St} {ρ : Env} : Own K F H v m as → SO K F H σ ρ bs → (∀ a ∈ as, a ∉ bs) → SO K F H (some v :: σ) (some m :: ρ) (as ++ bs)

section
variable {K : Kx} {F F' F1 F2 H H' H1 H2 : Hp} {as as' as1 as2 bs : List Addr} {σ : L2.St} {ρ : Env}
theorem SO.has : ∀ {σ : L2.St} {ρ : Env} {bs : List Addr}, SO K F H σ ρ bs → ∀ b ∈ bs, H b ≠ none ∧ F b = none
  | _, _, _, .nil _, b, hb => by simp at hb
  | _, _, _, .no h, b, hb => SO.has h b hb
  | _, _, _, .ow h hs _, b, hb => by
    rcases List.mem_append.mp hb with hb | hb
    · exact Own.has h b hb
    · exact SO.has hs b hb
theorem SO.tab : ∀ {σ : L2.St} {ρ : Env} {bs : List Addr}, SO K F H σ ρ bs → TabOk F H
  | _, _, _, .nil t => t
  | _, _, _, .no h => h.tab
  | _, _, _, .ow _ h _ => h.tab
theorem SO.frame (g : Gr F H as F' H' as') : ∀ {σ : L2.St} {ρ : Env} {bs : List Addr}, SO K F H σ ρ bs → (∀ b ∈ bs, b ∉ as) → SO K F' H' σ ρ bs
  | _, _, _, .nil t, _ => .nil (g.tb t)
  | _, _, _, .no h, q => .no (SO.frame g h q)
  | _, _, _, .ow h hs n, q => .ow (Own.frame g h fun b hb => q b (List.mem_append_left _ hb)) (SO.frame g hs fun b hb => q b (List.mem_append_right _ hb)) n
theorem SO.grow (g : Gr F H [] F' H' []) (h : SO K F H σ ρ bs) : SO K F' H' σ ρ bs := h.frame g (by simp)
theorem SO.apart (g : Gr F H as F' H' as') (h : SO K F H σ ρ bs) (q : ∀ b ∈ bs, b ∉ as) : ∀ b ∈ bs, b ∉ as' := fun b hb => g.out (h.has b hb).1 (q b hb)
theorem SO.len : ∀ {σ : L2.St} {ρ : Env} {bs : List Addr}, SO K F H σ ρ bs → σ.length = ρ.length
  | _, _, _, .nil _ => rfl
  | _, _, _, .no h => congrArg (· + 1) (SO.len h)
  | _, _, _, .ow _ h _ => congrArg (· + 1) (SO.len h)
/-- a slot: what it holds, and how it is put back when that has changed -/
theorem SO.at : ∀ {σ : L2.St} {ρ : Env} {as : List Addr} {i : Nat} {m : M}, SO K F H σ ρ as → ρ[i]? = some (some m) → ∃ v ms, σ[i]? = some (some v) ∧ Own K F H v m ms ∧ (∀ a ∈ ms, a ∈ as) ∧
    ∀ L F' H' m' ms', (∀ a ∈ L, a ∈ as → a ∈ ms) → Gr F H L F' H' ms' → Own K F' H' v m' ms' → ∃ as', SO K F' H' σ (ρ.set i (some m')) as' ∧ ∀ a ∈ as', (a ∈ as ∧ a ∉ ms) ∨ a ∈ ms'
  | _, _, _, i, m, .nil _, e => by simp at e
  | _, _, _, 0, m, .no h, e => by simp at e
  | _, _, _, i + 1, m, .no h, e => by
    obtain ⟨v, ms, h1, h2, h3, h4⟩ := SO.at h (i := i) (m := m) (by simpa using e)
    refine ⟨v, ms, by simpa using h1, h2, h3, fun L F' H' m' ms' hL g o => ?_⟩
    obtain ⟨as', q1, q2⟩ := h4 L F' H' m' ms' hL g o
    exact ⟨as', .no q1, q2⟩
  | _, _, _, 0, m, .ow (v := v) (as := ms) (bs := bs) ho hs n, e => by
    simp at e
    subst e
    refine ⟨v, ms, rfl, ho, fun a z => List.mem_append_left _ z, fun L F' H' m' ms' hL g o => ?_⟩
    have q0 : ∀ b ∈ bs, b ∉ ms := fun b hb z => n b z hb
    have q : ∀ b ∈ bs, b ∉ L := fun b hb z => q0 b hb (hL b z (List.mem_append_right _ hb))
    refine ⟨ms' ++ bs, .ow o (hs.frame g q) fun a z y => ?_, fun a z => ?_⟩
    · exact hs.apart g q a y z
    · rcases List.mem_append.mp z with z | z
      · exact .inr z
      · exact .inl ⟨List.mem_append_right _ z, q0 a z⟩
  | _, _, _, i + 1, m, .ow (v := v0) (m := m0) (as := bs) (bs := as0) ho hs n, e => by
    obtain ⟨v, ms, h1, h2, h3, h4⟩ := SO.at hs (i := i) (m := m) (by simpa using e)
    refine ⟨v, ms, by simpa using h1, h2, fun a z => List.mem_append_right _ (h3 a z), fun L F' H' m' ms' hL g o => ?_⟩
    obtain ⟨as', q1, q2⟩ := h4 L F' H' m' ms' (fun a z y => hL a z (List.mem_append_right _ y)) g o
    have q0 : ∀ b ∈ bs, b ∉ ms := fun b hb z => n b hb (h3 b z)
    have q : ∀ b ∈ bs, b ∉ L := fun b hb z => q0 b hb (hL b z (List.mem_append_left _ hb))
    refine ⟨bs ++ as', .ow (ho.frame g q) q1 fun a z y => ?_, fun a z => ?_⟩
    · rcases q2 a y with y | y
      · exact n a z y.1
      · exact ho.apart g q a z y
    · rcases List.mem_append.mp z with z | z
      · exact .inl ⟨List.mem_append_left _ z, q0 a z⟩
      · exact (q2 a z).imp (fun y => ⟨List.mem_append_right _ y.1, y.2⟩) id
theorem SO.set {v : V} {m : M} : ∀ {σ : L2.St} {ρ : Env} {as ms : List Addr} (i : Nat), SO K F H σ ρ as → Own K F H v m ms → (∀ a ∈ ms, a ∉ as) → ∃ as', SO K F H (σ.set i (some v)) (ρ.set i (some m)) as' ∧ ∀ a, a ∈ as' → a ∈ as ∨ a ∈ ms
  | _, _, _, _, i, .nil t, _, _ => ⟨[], .nil t, fun _ z => .inl z⟩
  | _, _, _, _, 0, .no h, o, n => ⟨_, .ow o h n, fun a z => (List.mem_append.mp z).symm⟩
  | _, _, _, _, 0, .ow _ h _, o, n => ⟨_, .ow o h fun a z y => n a z (List.mem_append_right _ y), fun a z => (List.mem_append.mp z).elim .inr fun y => .inl (List.mem_append_right _ y)⟩
  | _, _, _, _, i + 1, .no h, o, n => by
    obtain ⟨as', q1, q2⟩ := SO.set i h o n
    exact ⟨as', .no q1, q2⟩
  | _, _, _, ms, i + 1, .ow (as := as0) (bs := bs) h hs n0, o, n => by
    obtain ⟨as', q1, q2⟩ := SO.set i hs o fun a z y => n a z (List.mem_append_right _ y)
    refine ⟨as0 ++ as', .ow h q1 fun a z y => ?_, fun a z => ?_⟩
    · rcases q2 a y with y | y
      · exact n0 a z y
      · exact n a y (List.mem_append_left _ z)
    · rcases List.mem_append.mp z with z | z
      · exact .inl (List.mem_append_left _ z)
      · exact (q2 a z).imp (List.mem_append_right _) id
theorem SO.drop : ∀ {σ : L2.St} {ρ : Env} {as : List Addr} (i : Nat) (x : Option V), SO K F H σ ρ as → ∃ as', SO K F H (σ.set i x) (ρ.set i none) as' ∧ ∀ a, a ∈ as' → a ∈ as
  | _, _, _, i, x, .nil t => ⟨[], .nil t, fun _ z => z⟩
  | _, _, _, 0, x, .no h => ⟨_, .no h, fun _ z => z⟩
  | _, _, _, 0, x, .ow _ h _ => ⟨_, .no h, fun a z => List.mem_append_right _ z⟩
  | _, _, _, i + 1, x, .no h => by
    obtain ⟨as', q1, q2⟩ := SO.drop i x h
    exact ⟨as', .no q1, q2⟩
  | _, _, _, i + 1, x, .ow (as := as0) h hs n => by
    obtain ⟨as', q1, q2⟩ := SO.drop i x hs
    refine ⟨as0 ++ as', .ow h q1 fun a z y => n a z (q2 a y), fun a z => ?_⟩
    rcases List.mem_append.mp z with z | z
    · exact List.mem_append_left _ z
    · exact List.mem_append_right _ (q2 a z)
end
end Y
/-! Y: the judgements: pure readings (EP, EN), those that change what is owned (EM, EX), tests, statements, loops, comprehensions. -/
namespace Y
open PySem L2
variable [TabC]

inductive Rs (α : Type) where
  | ok (a : α) (ρ : Env) | ex (C : Nat) (ρ : Env)
abbrev G (α : Type) := Env → Option (Rs α)
def gBind {α β : Type} (g : G α) (k : α → G β) : G β := fun ρ => match g ρ with
  | none => none
  | some (.ex C ρ') => some (.ex C ρ')
  | some (.ok a ρ') => k a ρ'
def gRet {α : Type} (a : α) : G α := fun ρ => some (.ok a ρ)
def gOpt {α : Type} (o : Option α) : G α := fun ρ => match o with
  | some a => some (.ok a ρ)
  | none => none
/-- what a pure reading gives -/
def gOf {α : Type} (p : Env → Option α) : G α := fun ρ => match p ρ with
  | some a => some (.ok a ρ)
  | none => none
theorem gOpt_ok {α : Type} {o : Option α} {ρ : Env} {r : Rs α} (h : gOpt o ρ = some r) : ∃ a, o = some a ∧ r = .ok a ρ := by
  unfold gOpt at h
  cases o with
  | none => cases h
  | some a => exact ⟨a, rfl, (Option.some.inj h).symm⟩
theorem gOf_ok {α : Type} {o : Env → Option α} {ρ : Env} {r : Rs α} (h : gOf o ρ = some r) : ∃ a, o ρ = some a ∧ r = .ok a ρ := by
  unfold gOf at h
  cases e : o ρ with
  | none => rw [e] at h; cases h
  | some a =>
    rw [e] at h
    exact ⟨a, rfl, (Option.some.inj h).symm⟩
theorem gRet_ok {α : Type} {a : α} {ρ : Env} {r : Rs α} (h : gRet a ρ = some r) : r = .ok a ρ := (Option.some.inj h).symm
theorem gBind_cases {α β : Type} {g : G α} {k : α → G β} {ρ : Env} {o : Rs β} (h : gBind g k ρ = some o) :
    (∃ C ρ', g ρ = some (.ex C ρ') ∧ o = .ex C ρ') ∨ ∃ a ρ', g ρ = some (.ok a ρ') ∧ k a ρ' = some o := by
  unfold gBind at h
  cases e : g ρ with
  | none => rw [e] at h; cases h
  | some r =>
    rw [e] at h
    cases r with
    | ex C ρ' => exact .inl ⟨C, ρ', rfl, (Option.some.inj h).symm⟩
    | ok a ρ' => exact .inr ⟨a, ρ', rfl, h⟩

/-- nothing is raised -/
def gCalm {α : Type} (g : G α) : G α := fun ρ => match g ρ with
  | some (.ok a ρ') => some (.ok a ρ')
  | _ => none
theorem gCalm_ok {α : Type} {g : G α} {ρ : Env} {o : Rs α} (h : gCalm g ρ = some o) : ∃ a ρ', o = .ok a ρ' ∧ g ρ = some (.ok a ρ') := by
  unfold gCalm at h
  split at h
  · rename_i a ρ' e
    exact ⟨a, ρ', (Option.some.inj h).symm, e⟩
  · cases h

section
variable (K : Kx) (E : XK) (kp : Nat → Bool)
def Keeps (σ σ' : L2.St) : Prop := (∀ i, kp i = true → σ'[i]? = σ[i]?) ∧ σ'.length = σ.length
/-- the end by an exception is met -/
def XP {α : Type} (F H : Hp) (σ : L2.St) (as : List Addr) (o : Rs α) : Prop := ∀ C ρ', o = .ex C ρ' → ∀ F' H' σ' as', Keeps kp σ σ' → Gr F H as F' H' as' → SO K F' H' σ' ρ' as' → E (.ref (K.ca C)) none H'
/-- a reading whose answers are of the frozen kind R -/
def JD {A α : Type} (R : Hp → A → α → Prop) (t : L2.St → Hp → (A → Hp → Prop) → Prop) (g : G α) : Prop :=
  ∀ F H σ ρ as o Q, Same F H → SO K F H σ ρ as → g ρ = some o → XP K E kp F H σ as o →
    (∀ x ρ', o = .ok x ρ' → ∀ F' H' as' a, Gr F H as F' H' as' → SO K F' H' σ ρ' as' → R F' a x → Q a H') → t σ H Q
abbrev EX (t : TE) (g : G D) : Prop := JD K E kp (DV K) t g
abbrev ET (t : TT) (g : G Bool) : Prop := JD K E kp (fun _ (b b' : Bool) => b = b') t g
abbrev EXs (t : TA) (g : G (List D)) : Prop := JD K E kp (DVs K) t g
/-- .. whose answer is a fresh tree -/
def EM (t : TE) (g : G M) : Prop :=
  ∀ F H σ ρ as o Q, Same F H → SO K F H σ ρ as → g ρ = some o → XP K E kp F H σ as o →
    (∀ m ρ', o = .ok m ρ' → ∀ F' H' as' rs v, Gr F H as F' H' (as' ++ rs) → SO K F' H' σ ρ' as' → Own K F' H' v m rs → (∀ z ∈ rs, z ∉ as') → Q v H') → t σ H Q
def EMs (t : TA) (g : G (List M)) : Prop :=
  ∀ F H σ ρ as o Q, Same F H → SO K F H σ ρ as → g ρ = some o → XP K E kp F H σ as o →
    (∀ m ρ', o = .ok m ρ' → ∀ F' H' as' rs v, Gr F H as F' H' (as' ++ rs) → SO K F' H' σ ρ' as' → Owns K F' H' v m rs → (∀ z ∈ rs, z ∉ as') → Q v H') → t σ H Q
/-- pure: it may point into what is owned -/
def EP (t : TE) (g : Env → Option M) : Prop :=
  ∀ F H σ ρ as m Q, Same F H → SO K F H σ ρ as → g ρ = some m → (∀ F' H' v rs, Gr F H [] F' H' [] → Own K F' H' v m rs → Q v H') → t σ H Q
/-- pure, fresh -/
def EN (t : TE) (g : Env → Option M) : Prop :=
  ∀ F H σ ρ as m Q, Same F H → SO K F H σ ρ as → g ρ = some m → (∀ F' H' v rs, Gr F H [] F' H' [] → Own K F' H' v m rs → (∀ z ∈ rs, H z = none) → Q v H') → t σ H Q
inductive Ois (F H : Hp) : List V → List M → Prop
  | nil : Ois F H [] []
  | cons {v : V} {m : M} {vs : List V} {ms : List M} {as : List Addr} : Own K F H v m as → Ois F H vs ms → Ois F H (v :: vs) (m :: ms)
def EPs (t : TA) (g : Env → Option (List M)) : Prop :=
  ∀ F H σ ρ as m Q, Same F H → SO K F H σ ρ as → g ρ = some m → (∀ F' H' vs, Gr F H [] F' H' [] → Ois K F' H' vs m → Q vs H') → t σ H Q
/-- a pure test -/
def EPT (t : TT) (g : Env → Option Bool) : Prop :=
  ∀ F H σ ρ as b Q, Same F H → SO K F H σ ρ as → g ρ = some b → (∀ F' H', Gr F H [] F' H' [] → Q b H') → t σ H Q
/-- operations on values -/
def P1 (r : V → Hp → VK → Prop) (f : M → Option M) : Prop :=
  ∀ F H v a as t Q, Same F H → Own K F H v a as → f a = some t → (∀ F' H' u rs, Gr F H [] F' H' [] → Own K F' H' u t rs → (∀ z ∈ rs, H z = none) → Q u H') → r v H Q
def P2 (r : R2) (f : M → M → Option M) : Prop :=
  ∀ F H v w a b as bs t Q, Same F H → Own K F H v a as → Own K F H w b bs → f a b = some t → (∀ F' H' u rs, Gr F H [] F' H' [] → Own K F' H' u t rs → (∀ z ∈ rs, H z = none) → Q u H') → r v w H Q
def PL (r : List V → Hp → VK → Prop) (f : List M → Option M) : Prop :=
  ∀ F H vs ms t Q, Same F H → Ois K F H vs ms → f ms = some t → (∀ F' H' u rs, Gr F H [] F' H' [] → Own K F' H' u t rs → (∀ z ∈ rs, H z = none) → Q u H') → r vs H Q
end

section
variable {K : Kx} {E : XK} {kp : Nat → Bool} {F F' F1 F2 H H' H1 H2 : Hp} {as as' as1 as2 bs : List Addr} {σ σ' σ1 : L2.St} {ρ : Env}
theorem Keeps.refl (σ : L2.St) : Keeps kp σ σ := ⟨fun _ _ => rfl, rfl⟩
theorem Keeps.trans (a : Keeps kp σ σ1) (b : Keeps kp σ1 σ') : Keeps kp σ σ' := ⟨fun i h => (b.1 i h).trans (a.1 i h), b.2.trans a.2⟩
theorem Keeps.set {i : Nat} {x : Option V} (h : kp i = false) : Keeps kp σ (σ.set i x) := ⟨fun j hj => by
  have hij : i ≠ j := fun e => by rw [e, hj] at h; cases h
  exact List.getElem?_set_ne hij, List.length_set⟩
theorem XP.step {α : Type} {o : Rs α} (h : XP K E kp F H σ as o) (k : Keeps kp σ σ1) (g : Gr F H as F1 H1 as1) : XP K E kp F1 H1 σ1 as1 o :=
  fun C ρ' e F' H' σ' as' k' g' s' => h C ρ' e F' H' σ' as' (k.trans k') (g.trans g') s'
theorem XP.to {α β : Type} {o : Rs α} (h : XP K E kp F H σ as o) {o' : Rs β} (q : ∀ C ρ', o' = .ex C ρ' → o = .ex C ρ') : XP K E kp F H σ as o' := fun C ρ' e => h C ρ' (q C ρ' e)
/-- a first reading, then what hangs on it -/
theorem JD.use {A α β : Type} {R : Hp → A → α → Prop} {t : L2.St → Hp → (A → Hp → Prop) → Prop} {g : G α} (h : JD K E kp R t g) (hs : Same F H) (so : SO K F H σ ρ as) {k : α → G β} {o : Rs β} (hg : gBind g k ρ = some o) (hx : XP K E kp F H σ as o) {Q : A → Hp → Prop}
    (hk : ∀ x ρ1 F1 H1 as1 a, Gr F H as F1 H1 as1 → SO K F1 H1 σ ρ1 as1 → R F1 a x → k x ρ1 = some o → Q a H1) : t σ H Q := by
  rcases gBind_cases hg with ⟨C, ρ', e, eo⟩ | ⟨a, ρ', e, eo⟩
  · refine h F H σ ρ as _ Q hs so e (hx.to fun C' ρ'' e' => by rw [eo]; cases e'; rfl) fun x ρ'' e' => by cases e'
  · refine h F H σ ρ as _ Q hs so e (hx.to fun C' ρ'' e' => by cases e') fun x ρ'' e' F' H' as' v g' so' r => ?_
    cases e'
    exact hk _ _ _ _ _ _ g' so' r eo
theorem EM.use {β : Type} {t : TE} {g : G M} (h : EM K E kp t g) (hs : Same F H) (so : SO K F H σ ρ as) {k : M → G β} {o : Rs β} (hg : gBind g k ρ = some o) (hx : XP K E kp F H σ as o) {Q : V → Hp → Prop}
    (hk : ∀ m ρ1 F1 H1 as1 rs v, Gr F H as F1 H1 (as1 ++ rs) → SO K F1 H1 σ ρ1 as1 → Own K F1 H1 v m rs → (∀ z ∈ rs, z ∉ as1) → k m ρ1 = some o → Q v H1) : t σ H Q := by
  rcases gBind_cases hg with ⟨C, ρ', e, eo⟩ | ⟨a, ρ', e, eo⟩
  · refine h F H σ ρ as _ Q hs so e (hx.to fun C' ρ'' e' => by rw [eo]; cases e'; rfl) fun x ρ'' e' => by cases e'
  · refine h F H σ ρ as _ Q hs so e (hx.to fun C' ρ'' e' => by cases e') fun x ρ'' e' F' H' as' rs v g' so' r n => ?_
    cases e'
    exact hk _ _ _ _ _ _ _ g' so' r n eo
theorem EMs.use {β : Type} {t : TA} {g : G (List M)} (h : EMs K E kp t g) (hs : Same F H) (so : SO K F H σ ρ as) {k : List M → G β} {o : Rs β} (hg : gBind g k ρ = some o) (hx : XP K E kp F H σ as o) {Q : List V → Hp → Prop}
    (hk : ∀ m ρ1 F1 H1 as1 rs v, Gr F H as F1 H1 (as1 ++ rs) → SO K F1 H1 σ ρ1 as1 → Owns K F1 H1 v m rs → (∀ z ∈ rs, z ∉ as1) → k m ρ1 = some o → Q v H1) : t σ H Q := by
  rcases gBind_cases hg with ⟨C, ρ', e, eo⟩ | ⟨a, ρ', e, eo⟩
  · refine h F H σ ρ as _ Q hs so e (hx.to fun C' ρ'' e' => by rw [eo]; cases e'; rfl) fun x ρ'' e' => by cases e'
  · refine h F H σ ρ as _ Q hs so e (hx.to fun C' ρ'' e' => by cases e') fun x ρ'' e' F' H' as' rs v g' so' r n => ?_
    cases e'
    exact hk _ _ _ _ _ _ _ g' so' r n eo
theorem EP.use {t : TE} {g : Env → Option M} (h : EP K t g) (hs : Same F H) (so : SO K F H σ ρ as) {β : Type} {k : M → Option β} {o : β} (hg : (g ρ).bind k = some o) {Q : V → Hp → Prop}
    (hk : ∀ m F1 H1 v rs, Gr F H [] F1 H1 [] → Own K F1 H1 v m rs → k m = some o → Q v H1) : t σ H Q := by
  cases e : g ρ with
  | none => rw [e] at hg; cases hg
  | some m =>
    rw [e] at hg
    exact h F H σ ρ as m Q hs so e fun F' H' v rs g' r => hk m F' H' v rs g' r hg
theorem EPs.use {t : TA} {g : Env → Option (List M)} (h : EPs K t g) (hs : Same F H) (so : SO K F H σ ρ as) {β : Type} {k : List M → Option β} {o : β} (hg : (g ρ).bind k = some o) {Q : List V → Hp → Prop}
    (hk : ∀ m F1 H1 v, Gr F H [] F1 H1 [] → Ois K F1 H1 v m → k m = some o → Q v H1) : t σ H Q := by
  cases e : g ρ with
  | none => rw [e] at hg; cases hg
  | some m =>
    rw [e] at hg
    exact h F H σ ρ as m Q hs so e fun F' H' v g' r => hk m F' H' v g' r hg
theorem EPT.use {t : TT} {g : Env → Option Bool} (h : EPT K t g) (hs : Same F H) (so : SO K F H σ ρ as) {β : Type} {k : Bool → Option β} {o : β} (hg : (g ρ).bind k = some o) {Q : Bool → Hp → Prop}
    (hk : ∀ b F1 H1, Gr F H [] F1 H1 [] → k b = some o → Q b H1) : t σ H Q := by
  cases e : g ρ with
  | none => rw [e] at hg; cases hg
  | some m =>
    rw [e] at hg
    exact h F H σ ρ as m Q hs so e fun F' H' g' => hk m F' H' g' hg
theorem Ois.grow (g : Gr F H [] F' H' []) : ∀ {vs : List V} {ms : List M}, Ois K F H vs ms → Ois K F' H' vs ms
  | _, _, .nil => .nil
  | _, _, .cons h hs => .cons (h.grow g) (Ois.grow g hs)
theorem Owns.ois : ∀ {vs : List V} {ms : List M} {as : List Addr}, Owns K F H vs ms as → Ois K F H vs ms
  | _, _, _, .nil => .nil
  | _, _, _, .cons h hs _ => .cons h (Owns.ois hs)
/-! ### from one kind to another -/
theorem EN.ep {t : TE} {g : Env → Option M} (h : EN K t g) : EP K t g := fun F H σ ρ as m Q hs so e k => h F H σ ρ as m Q hs so e fun F' H' v rs g r _ => k F' H' v rs g r
theorem EN.em {t : TE} {g : Env → Option M} (h : EN K t g) : EM K E kp t (gOf g) := fun F H σ ρ as o Q hs so e hx k => by
  obtain ⟨m, e1, rfl⟩ := gOf_ok e
  refine h F H σ ρ as m Q hs so e1 fun F' H' v rs g r n => k m ρ rfl F' H' as rs v ?_ (so.grow g) r fun z hz y => (so.has z y).1 (n z hz)
  exact g.re g.ff g.fh (by simp) (fun a z => (List.mem_append.mp z).imp id (n a)) (fun a e q _ => g.fz a e q (by simp))
/-- the answer is plain data -/
def asDat : M → Option D
  | .dat d => some d
  | _ => none
theorem asDat_ok {m : M} {d : D} (h : asDat m = some d) : m = .dat d := by
  cases m with
  | dat x => simp only [asDat, Option.some.injEq] at h; rw [h]
  | _ => simp [asDat] at h
theorem Own.dat_inv {v : V} {d : D} {rs : List Addr} (h : Own K F H v (.dat d) rs) : DV K F v d ∧ rs = [] := by cases h with | dat h => exact ⟨h, rfl⟩
theorem EP.ex {t : TE} {g : Env → Option M} (h : EP K t g) : EX K E kp t (gOf fun ρ => (g ρ).bind asDat) := fun F H σ ρ as o Q hs so e hx k => by
  obtain ⟨d, e1, rfl⟩ := gOf_ok e
  refine h.use hs so e1 fun m F1 H1 v rs g r e2 => ?_
  obtain rfl := asDat_ok e2
  exact k d ρ rfl F1 H1 as v (g.weak as) (so.grow g) r.dat_inv.1
theorem EX.em {t : TE} {g : G D} (h : EX K E kp t g) : EM K E kp t (gBind g fun d => gRet (.dat d)) := fun F H σ ρ as o Q hs so e hx k => by
  refine h.use hs so e hx fun d ρ1 F1 H1 as1 v g1 so1 r e1 => ?_
  obtain rfl := gRet_ok e1
  exact k _ _ rfl F1 H1 as1 [] v (by simpa using g1) so1 (.dat r) (by simp)
theorem Gr.left {as1 rs : List Addr} (g : Gr F H as F1 H1 (as1 ++ rs)) : Gr F H as F1 H1 as1 := g.less fun a z => List.mem_append_left _ z
theorem EM.ex {t : TE} {g : G M} (h : EM K E kp t g) : EX K E kp t (gBind g fun m => gOpt m.view) := fun F H σ ρ as o Q hs so e hx k => by
  refine h.use hs so e hx fun m ρ1 F1 H1 as1 rs v g1 so1 r n e1 => ?_
  obtain ⟨d, e2, rfl⟩ := gOpt_ok e1
  have d1 := r.freeze g1.fh e2 (bs := rs) fun _ z => z
  have g2 : Gr F1 H1 (as1 ++ rs) (frz F1 H1 rs) H1 as1 :=
    .frz' (frz_same g1.fh) (frz_le g1.fh) (fun a z => .inl (List.mem_append_left _ z)) (fun a e _ q => by rw [frz_out fun z => q (List.mem_append_right _ z)]; exact e) frz_tab
  have g3 : Gr F1 H1 rs (frz F1 H1 rs) H1 [] :=
    .frz' (frz_same g1.fh) (frz_le g1.fh) (fun a z => by simp at z) (fun a e _ q => by rw [frz_out q]; exact e) frz_tab
  exact k d ρ1 rfl _ H1 as1 v (g1.trans g2) (so1.frame g3 fun b hb z => n b z hb) d1
theorem EX.of_eq {t : TE} {g g' : G D} (h : EX K E kp t g) (e : g = g') : EX K E kp t g' := e ▸ h

/-! ### paths -/
inductive Pth where
  | slot (i : Nat) | fld (p : Pth) (f : Str) | idx (p : Pth) (n : Nat)
def lookM (f : Str) : List (Str × M) → Option M
  | [] => none
  | (g, m) :: fs => if f = g then some m else lookM f fs
def putM (f : Str) (m : M) : List (Str × M) → List (Str × M)
  | [] => [(f, m)]
  | (g, x) :: fs => if g = f then (g, m) :: fs else (g, x) :: putM f m fs
def stepM : M → Str → Option M
  | .obj _ fs, f => lookM f fs
  | _, _ => none
def itemM : M → Nat → Option M
  | .lst ms, n => ms[n]?
  | _, _ => none
def getP (ρ : Env) : Pth → Option M
  | .slot i => match ρ[i]? with
    | some (some m) => some m
    | _ => none
  | .fld p f => (getP ρ p).bind fun m => stepM m f
  | .idx p n => (getP ρ p).bind fun m => itemM m n
def putFld (m' : M) (f : Str) : M → M
  | .obj C fs => .obj C (putM f m' fs)
  | m => m
def putIdx (m' : M) (n : Nat) : M → M
  | .lst ms => .lst (ms.set n m')
  | m => m
def putP (ρ : Env) : Pth → M → Env
  | .slot i, m' => ρ.set i (some m')
  | .fld p f, m' => match getP ρ p with
    | some m => putP ρ p (putFld m' f m)
    | none => ρ
  | .idx p n, m' => match getP ρ p with
    | some m => putP ρ p (putIdx m' n m)
    | none => ρ
/-- v stands there, and is put back so when its tree has changed -/
structure Foc (K : Kx) (σ : L2.St) (ρ : Env) (as : List Addr) (F H : Hp) (p : Pth) (v : V) (m : M) (ms : List Addr) : Prop where
  own : Own K F H v m ms
  sub : ∀ a ∈ ms, a ∈ as
  put : ∀ L F' H' m' ms', (∀ a ∈ L, a ∈ as → a ∈ ms) → Gr F H L F' H' ms' → Own K F' H' v m' ms' → ∃ as', SO K F' H' σ (putP ρ p m') as' ∧ ∀ a ∈ as', (a ∈ as ∧ a ∉ ms) ∨ a ∈ ms'
theorem Foc.grow {p : Pth} {v : V} {m : M} {ms : List Addr} (g : Gr F H [] F' H' []) (h : Foc K σ ρ as F H p v m ms) : Foc K σ ρ as F' H' p v m ms :=
  ⟨h.own.grow g, h.sub, fun L F2 H2 m' ms' hL g2 o => h.put L F2 H2 m' ms' hL ((g.weak L).trans g2) o⟩
theorem Foc.put' {p : Pth} {v : V} {m : M} {ms : List Addr} (h : Foc K σ ρ as F H p v m ms) {m' : M} {ms' : List Addr} (g : Gr F H ms F' H' ms') (o : Own K F' H' v m' ms') : ∃ as', SO K F' H' σ (putP ρ p m') as' ∧ Gr F H as F' H' as' ∧ ∀ a ∈ as', (a ∈ as ∧ a ∉ ms) ∨ a ∈ ms' := by
  obtain ⟨as', q1, q2⟩ := h.put ms F' H' m' ms' (fun _ z _ => z) g o
  exact ⟨as', q1, g.lift h.sub (fun a z => (q2 a z).imp And.left id), q2⟩
theorem foc_slot {i : Nat} {m : M} (so : SO K F H σ ρ as) (e : getP ρ (.slot i) = some m) : ∃ v ms, σ[i]? = some (some v) ∧ Foc K σ ρ as F H (.slot i) v m ms := by
  have e' : ρ[i]? = some (some m) := by
    simp only [getP] at e
    split at e
    · rename_i m' h
      rw [h, Option.some.inj e]
    · cases e
  obtain ⟨v, ms, h1, h2, h3, h4⟩ := so.at e'
  exact ⟨v, ms, h1, h2, h3, h4⟩
theorem lookM_cons {f g : Str} {m : M} {fs : List (Str × M)} : lookM f ((g, m) :: fs) = if f = g then some m else lookM f fs := rfl
/-- a field of an instance -/
theorem fields_at : ∀ {fvs : List (Str × V)} {fs : List (Str × M)} {as : List Addr} {f : Str} {m : M}, fvs.map (·.1) = fs.map (·.1) → Owns K F H (fvs.map (·.2)) (fs.map (·.2)) as → lookM f fs = some m →
    ∃ u ms, fvs.lookup f = some u ∧ Own K F H u m ms ∧ (∀ a ∈ ms, a ∈ as) ∧
      ∀ L F' H' m' ms', (∀ a ∈ L, a ∈ as → a ∈ ms) → Gr F H L F' H' ms' → Own K F' H' u m' ms' → ∃ as', fvs.map (·.1) = (putM f m' fs).map (·.1) ∧ Owns K F' H' (fvs.map (·.2)) ((putM f m' fs).map (·.2)) as' ∧ ∀ a ∈ as', (a ∈ as ∧ a ∉ ms) ∨ a ∈ ms'
  | fvs, [], as, f, m, hn, ho, e => by simp [lookM] at e
  | [], _ :: _, as, f, m, hn, ho, e => by simp at hn
  | (g, u) :: fvs, (g', m0) :: fs, as, f, m, hn, ho, e => by
    simp only [List.map_cons, List.cons.injEq] at hn
    obtain ⟨hg, hn⟩ := hn
    have hg : g = g' := hg
    subst hg
    simp only [List.map_cons] at ho
    cases ho with
    | cons h hs n =>
      rename_i bs cs
      rw [lookM_cons] at e
      by_cases hf : f = g
      · rw [if_pos hf] at e
        cases e
        refine ⟨u, _, by rw [List.lookup_cons, hf]; simp, h, fun a z => List.mem_append_left _ z, fun L F' H' m' ms' hL gr o => ?_⟩
        have ep : putM f m' ((g, m0) :: fs) = (g, m') :: fs := by unfold putM; rw [if_pos hf.symm]
        have q0 : ∀ b ∈ cs, b ∉ bs := fun b hb z => n b z hb
        have q : ∀ b ∈ cs, b ∉ L := fun b hb z => q0 b hb (hL b z (List.mem_append_right _ hb))
        refine ⟨ms' ++ cs, by rw [ep]; simp [hn], by rw [ep]; exact .cons o (hs.frame gr q) fun a z y => hs.apart gr q a y z, fun a z => ?_⟩
        exact (List.mem_append.mp z).elim .inr fun y => .inl ⟨List.mem_append_right _ y, q0 a y⟩
      · rw [if_neg hf] at e
        obtain ⟨u', ms, h1, h2, h3, h4⟩ := fields_at hn hs e
        refine ⟨u', ms, by rw [List.lookup_cons]; simp only [beq_eq_false_iff_ne.mpr hf]; exact h1, h2, fun a z => List.mem_append_right _ (h3 a z), fun L F' H' m' ms' hL gr o => ?_⟩
        obtain ⟨as', q1, q2, q3⟩ := h4 L F' H' m' ms' (fun a z y => hL a z (List.mem_append_right _ y)) gr o
        have ep : putM f m' ((g, m0) :: fs) = (g, m0) :: putM f m' fs := by rw [putM, if_neg (fun z => hf z.symm)]
        have q0 : ∀ b ∈ bs, b ∉ ms := fun b hb z => n b hb (h3 b z)
        have q : ∀ b ∈ bs, b ∉ L := fun b hb z => q0 b hb (hL b z (List.mem_append_left _ hb))
        have dj : ∀ a ∈ bs, a ∉ as' := fun a z y => by
          rcases q3 a y with y | y
          · exact n a z y.1
          · exact h.apart gr q a z y
        refine ⟨bs ++ as', by rw [ep]; simp [q1], by rw [ep]; exact .cons (h.frame gr q) q2 dj, fun a z => ?_⟩
        · rcases List.mem_append.mp z with z | z
          · exact .inl ⟨List.mem_append_left _ z, q0 a z⟩
          · exact (q3 a z).imp (fun y => ⟨List.mem_append_right _ y.1, y.2⟩) id
/-- an item of an owned list -/
theorem items_at : ∀ {vs : List V} {ms0 : List M} {as : List Addr} {n : Nat} {m : M}, Owns K F H vs ms0 as → ms0[n]? = some m →
    ∃ u ms, vs[n]? = some u ∧ Own K F H u m ms ∧ (∀ a ∈ ms, a ∈ as) ∧
      ∀ L F' H' m' ms', (∀ a ∈ L, a ∈ as → a ∈ ms) → Gr F H L F' H' ms' → Own K F' H' u m' ms' → ∃ as', Owns K F' H' vs (ms0.set n m') as' ∧ ∀ a ∈ as', (a ∈ as ∧ a ∉ ms) ∨ a ∈ ms'
  | _, _, _, n, m, .nil, e => by simp at e
  | _, _, _, 0, m, .cons (v := v) (as := bs) (bs := cs) h hs n, e => by
    simp at e
    subst e
    refine ⟨v, _, rfl, h, fun a z => List.mem_append_left _ z, fun L F' H' m' ms' hL gr o => ?_⟩
    have q0 : ∀ b ∈ cs, b ∉ bs := fun b hb z => n b z hb
    have q : ∀ b ∈ cs, b ∉ L := fun b hb z => q0 b hb (hL b z (List.mem_append_right _ hb))
    exact ⟨ms' ++ cs, .cons o (hs.frame gr q) fun a z y => hs.apart gr q a y z, fun a z => (List.mem_append.mp z).elim .inr fun y => .inl ⟨List.mem_append_right _ y, q0 a y⟩⟩
  | _, _, _, i + 1, m, .cons (v := v) (as := bs) (bs := cs) h hs n, e => by
    obtain ⟨u', ms, h1, h2, h3, h4⟩ := items_at hs (n := i) (by simpa using e)
    refine ⟨u', ms, by simpa using h1, h2, fun a z => List.mem_append_right _ (h3 a z), fun L F' H' m' ms' hL gr o => ?_⟩
    obtain ⟨as', q2, q3⟩ := h4 L F' H' m' ms' (fun a z y => hL a z (List.mem_append_right _ y)) gr o
    have q0 : ∀ b ∈ bs, b ∉ ms := fun b hb z => n b hb (h3 b z)
    have q : ∀ b ∈ bs, b ∉ L := fun b hb z => q0 b hb (hL b z (List.mem_append_left _ hb))
    refine ⟨bs ++ as', .cons (h.frame gr q) q2 fun a z y => ?_, fun a z => ?_⟩
    · rcases q3 a y with y | y
      · exact n a z y.1
      · exact h.apart gr q a z y
    · rcases List.mem_append.mp z with z | z
      · exact .inl ⟨List.mem_append_left _ z, q0 a z⟩
      · exact (q3 a z).imp (fun y => ⟨List.mem_append_right _ y.1, y.2⟩) id
theorem foc_fld {p : Pth} {f : Str} {v : V} {C : Nat} {fs : List (Str × M)} {m : M} {ms0 : List Addr} (h : Foc K σ ρ as F H p v (.obj C fs) ms0) (hp : getP ρ p = some (.obj C fs)) (e : lookM f fs = some m) :
    ∃ a dx fvs u ms, v = .ref a ∧ H a = some (.ins (K.ca C) dx fvs) ∧ fvs.lookup f = some u ∧ Foc K σ ρ as F H (.fld p f) u m ms := by
  have ho := h.own
  cases ho with
  | obj ha hd fa fd en hs n1 n2 n3 =>
    rename_i a dx fvs bs
    obtain ⟨u, ms, h1, h2, h3, h4⟩ := fields_at en hs e
    refine ⟨a, dx, fvs, u, ms, rfl, ha, h1, h2, fun b z => h.sub b (List.mem_cons_of_mem _ (List.mem_cons_of_mem _ (h3 b z))), fun L F' H' m' ms' hL gr o => ?_⟩
    have subx : ∀ b ∈ bs, b ∈ as := fun b z => h.sub b (List.mem_cons_of_mem _ (List.mem_cons_of_mem _ z))
    obtain ⟨as', q1, q2, q3⟩ := h4 L F' H' m' ms' (fun b z y => hL b z (subx b y)) gr o
    have na0 : a ∉ ms := fun z => n1 (h3 a z)
    have nd0 : dx ∉ ms := fun z => n2 (h3 dx z)
    have na : a ∉ L := fun z => na0 (hL a z (h.sub a List.mem_cons_self))
    have nd : dx ∉ L := fun z => nd0 (hL dx z (h.sub dx (List.mem_cons_of_mem _ List.mem_cons_self)))
    have a1 : H a ≠ none := by rw [ha]; simp
    have d1 : H dx ≠ none := by rw [hd]; simp
    have own' : Own K F' H' (.ref a) (.obj C (putM f m' fs)) (a :: dx :: as') := by
      refine .obj (gr.hh _ _ ha na) (gr.hh _ _ hd nd) (gr.fz _ fa a1 na) (gr.fz _ fd d1 nd) q1 q2 (fun z => ?_) (fun z => ?_) n3
      · exact (q3 a z).elim (fun y => n1 y.1) fun y => gr.out a1 na y
      · exact (q3 dx z).elim (fun y => n2 y.1) fun y => gr.out d1 nd y
    have gr' : Gr F H ((a :: dx :: bs) ++ L) F' H' (a :: dx :: as') := gr.lift (fun b z => List.mem_append_right _ z) fun b z => by
      rcases List.mem_cons.mp z with z | z
      · exact .inl (by rw [z]; simp)
      · rcases List.mem_cons.mp z with z | z
        · exact .inl (by rw [z]; simp)
        · exact (q3 b z).imp (fun y => by simp [y.1]) id
    obtain ⟨as2, w1, w2⟩ := h.put _ F' H' _ _ (fun b z y => (List.mem_append.mp z).elim id fun w => List.mem_cons_of_mem _ (List.mem_cons_of_mem _ (h3 b (hL b w y)))) gr' own'
    refine ⟨as2, ?_, fun b z => ?_⟩
    · simp only [putP, hp, putFld]
      exact w1
    · rcases w2 b z with y | y
      · exact .inl ⟨y.1, fun w => y.2 (List.mem_cons_of_mem _ (List.mem_cons_of_mem _ (h3 b w)))⟩
      · rcases List.mem_cons.mp y with y | y
        · exact .inl ⟨h.sub b (by rw [y]; exact List.mem_cons_self), by rw [y]; exact na0⟩
        · rcases List.mem_cons.mp y with y | y
          · exact .inl ⟨h.sub b (by rw [y]; exact List.mem_cons_of_mem _ List.mem_cons_self), by rw [y]; exact nd0⟩
          · exact (q3 b y).imp (fun w => ⟨h.sub b (List.mem_cons_of_mem _ (List.mem_cons_of_mem _ w.1)), w.2⟩) id
theorem foc_idx {p : Pth} {n : Nat} {v : V} {ms1 : List M} {m : M} {ms0 : List Addr} (h : Foc K σ ρ as F H p v (.lst ms1) ms0) (hp : getP ρ p = some (.lst ms1)) (e : ms1[n]? = some m) :
    ∃ a vs u ms, v = .ref a ∧ H a = some (.lst vs) ∧ vs[n]? = some u ∧ vs.length = ms1.length ∧ Foc K σ ρ as F H (.idx p n) u m ms := by
  have ho := h.own
  cases ho with
  | lst ha fa hs n1 =>
    rename_i a vs bs
    obtain ⟨u, ms, h1, h2, h3, h4⟩ := items_at hs e
    have hlen : ∀ {vs : List V} {ms : List M} {as : List Addr}, Owns K F H vs ms as → vs.length = ms.length := fun {vs ms as} h => by
      induction vs generalizing ms as with
      | nil => cases h; rfl
      | cons v vs ih => cases h with | cons h hs n => exact congrArg (· + 1) (ih hs)
    refine ⟨a, vs, u, ms, rfl, ha, h1, hlen hs, h2, fun b z => h.sub b (List.mem_cons_of_mem _ (h3 b z)), fun L F' H' m' ms' hL gr o => ?_⟩
    have subx : ∀ b ∈ bs, b ∈ as := fun b z => h.sub b (List.mem_cons_of_mem _ z)
    obtain ⟨as', q2, q3⟩ := h4 L F' H' m' ms' (fun b z y => hL b z (subx b y)) gr o
    have na0 : a ∉ ms := fun z => n1 (h3 a z)
    have na : a ∉ L := fun z => na0 (hL a z (h.sub a List.mem_cons_self))
    have a1 : H a ≠ none := by rw [ha]; simp
    have own' : Own K F' H' (.ref a) (.lst (ms1.set n m')) (a :: as') := by
      refine .lst (gr.hh _ _ ha na) (gr.fz _ fa a1 na) q2 fun z => ?_
      exact (q3 a z).elim (fun y => n1 y.1) fun y => gr.out a1 na y
    have gr' : Gr F H ((a :: bs) ++ L) F' H' (a :: as') := gr.lift (fun b z => List.mem_append_right _ z) fun b z => by
      rcases List.mem_cons.mp z with z | z
      · exact .inl (by rw [z]; simp)
      · exact (q3 b z).imp (fun y => by simp [y.1]) id
    obtain ⟨as2, w1, w2⟩ := h.put _ F' H' _ _ (fun b z y => (List.mem_append.mp z).elim id fun w => List.mem_cons_of_mem _ (h3 b (hL b w y))) gr' own'
    refine ⟨as2, ?_, fun b z => ?_⟩
    · simp only [putP, hp, putIdx]
      exact w1
    · rcases w2 b z with y | y
      · exact .inl ⟨y.1, fun w => y.2 (List.mem_cons_of_mem _ (h3 b w))⟩
      · rcases List.mem_cons.mp y with y | y
        · exact .inl ⟨h.sub b (by rw [y]; exact List.mem_cons_self), by rw [y]; exact na0⟩
        · exact (q3 b y).imp (fun w => ⟨h.sub b (List.mem_cons_of_mem _ w.1), w.2⟩) id
end
/-- a reading that gives what stands at a path -/
def LP (K : Kx) (t : TE) (pf : Env → Option Pth) : Prop :=
  ∀ F H σ ρ as p m Q, Same F H → SO K F H σ ρ as → pf ρ = some p → getP ρ p = some m → (∀ F' H' v ms, Gr F H [] F' H' [] → Foc K σ ρ as F' H' p v m ms → Q v H') → t σ H Q
section
variable {K : Kx} {E : XK} {kp : Nat → Bool} {F F' F1 F2 H H' H1 H2 : Hp} {as as' as1 as2 bs : List Addr} {σ σ' σ1 : L2.St} {ρ : Env}
theorem lp_slot (i : Nat) : LP K (tVar i) (fun _ => some (.slot i)) := fun F H σ ρ as p m Q hs so e e2 k => by
  cases e
  obtain ⟨v, ms, h1, h2⟩ := foc_slot so e2
  exact ⟨v, h1, k F H v ms (.refl hs) h2⟩
def gP (pf : Env → Option Pth) : Env → Option M := fun ρ => (pf ρ).bind (getP ρ)
theorem LP.ep {t : TE} {pf : Env → Option Pth} (h : LP K t pf) : EP K t (gP pf) := fun F H σ ρ as m Q hs so e k => by
  unfold gP at e
  cases e1 : pf ρ with
  | none => rw [e1] at e; cases e
  | some p =>
    rw [e1] at e
    exact h F H σ ρ as p m Q hs so e1 e fun F' H' v ms g f => k F' H' v ms g f.own
def gFld (C : Nat) (f : Str) (pf : Env → Option Pth) : Env → Option Pth := fun ρ => match pf ρ with
  | some p => (match getP ρ p with
    | some (.obj C' _) => if C' = C then some (.fld p f) else none
    | _ => none)
  | none => none
theorem lp_fld {t : TE} {pf : Env → Option Pth} {f : Str} {C : Nat} (h : LP K t pf) (c : Cls K.K (K.ca C)) (n : NoAttr K.K (K.ca C) f) : LP K (tFld K.K t f) (gFld C f pf) := fun F H σ ρ as p m Q hs so e e2 k => by
  unfold gFld at e
  split at e
  · rename_i p0 e1
    split at e
    · rename_i C' fs e3
      split at e
      · rename_i hC
        subst hC
        cases e
        simp only [getP, e3, Option.bind_some, stepM] at e2
        refine h F H σ ρ as p0 _ _ hs so e1 e3 fun F' H' v ms g fo => ?_
        obtain ⟨a, dx, fvs, u, ms', r1, r2, r3, r4⟩ := foc_fld fo e3 e2
        exact ⟨a, _, dx, fvs, u, r1, r2, c, n, r3, k F' H' u ms' g r4⟩
      · cases e
    · cases e
  · cases e
end
end Y
/-! Y: statements, loops, comprehensions. -/
namespace Y
open PySem L2
variable [TabC]

inductive Fl where
  | nx | bk | ct | rt (m : M)
structure FP (K : Kx) (kp : Nat → Bool) (F H : Hp) (σ : L2.St) (as : List Addr) (o : Rs Fl) (D : Ends) : Prop where
  nx : ∀ ρ', o = .ok .nx ρ' → ∀ F' H' σ' as', Keeps kp σ σ' → Gr F H as F' H' as' → SO K F' H' σ' ρ' as' → D.nx σ' H'
  bk : ∀ ρ', o = .ok .bk ρ' → ∀ F' H' σ' as', Keeps kp σ σ' → Gr F H as F' H' as' → SO K F' H' σ' ρ' as' → D.bk σ' H'
  ct : ∀ ρ', o = .ok .ct ρ' → ∀ F' H' σ' as', Keeps kp σ σ' → Gr F H as F' H' as' → SO K F' H' σ' ρ' as' → D.ct σ' H'
  rt : ∀ m ρ', o = .ok (.rt m) ρ' → ∀ F' H' σ' as' rs v, Keeps kp σ σ' → Gr F H as F' H' (as' ++ rs) → SO K F' H' σ' ρ' as' → Own K F' H' v m rs → (∀ z ∈ rs, z ∉ as') → D.rt v H'
def RN (K : Kx) (E : XK) (kp : Nat → Bool) (t : TS) (g : G Fl) : Prop :=
  ∀ F H σ ρ as o D, Same F H → SO K F H σ ρ as → g ρ = some o → XP K E kp F H σ as o → FP K kp F H σ as o D → t D σ H
def gThen (g k : G Fl) : G Fl := gBind g fun f => match f with
  | .nx => k
  | .bk => gRet .bk
  | .ct => gRet .ct
  | .rt m => gRet (.rt m)
def gSet (i : Nat) (m : M) : G Fl := fun ρ => some (.ok .nx (ρ.set i (some m)))
def gSkip : G Fl := gRet .nx
def gIf (b : Bool) (g k : G Fl) : G Fl := bif b then g else k

section
variable {K : Kx} {E : XK} {kp : Nat → Bool} {F F' F1 F2 H H' H1 H2 : Hp} {as as' as1 as2 bs : List Addr} {σ σ' σ1 : L2.St} {ρ : Env} {t u tb : TS} {g k gb : G Fl} {te : TE}
theorem FP.step {o : Rs Fl} {D : Ends} (h : FP K kp F H σ as o D) (q : Keeps kp σ σ1) (g : Gr F H as F1 H1 as1) : FP K kp F1 H1 σ1 as1 o D :=
  ⟨fun ρ' e F' H' σ' as' k' g' s' => h.nx ρ' e F' H' σ' as' (q.trans k') (g.trans g') s', fun ρ' e F' H' σ' as' k' g' s' => h.bk ρ' e F' H' σ' as' (q.trans k') (g.trans g') s',
    fun ρ' e F' H' σ' as' k' g' s' => h.ct ρ' e F' H' σ' as' (q.trans k') (g.trans g') s', fun m ρ' e F' H' σ' as' rs v k' g' s' => h.rt m ρ' e F' H' σ' as' rs v (q.trans k') (g.trans g') s'⟩
theorem FP.ex {C : Nat} {ρ' : Env} {D : Ends} : FP K kp F H σ as (.ex C ρ') D := by
  refine ⟨?_, ?_, ?_, ?_⟩ <;> first | (intro _ e'; cases e'; done) | (intro _ _ e'; cases e'; done)
theorem RN.of_eq (h : RN K E kp t g) (e : g = k) : RN K E kp t k := e ▸ h
theorem rn_seq (h1 : RN K E kp t g) (h2 : RN K E kp u k) : RN K E kp (tSeq t u) (gThen g k) := fun F H σ ρ as o D hs so e hx hp => by
  rcases gBind_cases e with ⟨C, ρ', e1, eo⟩ | ⟨f, ρ', e1, eo⟩
  · subst eo
    refine h1 F H σ ρ as (.ex C ρ') _ hs so e1 hx ?_
    refine ⟨?_, ?_, ?_, ?_⟩ <;> first | (intro _ e'; cases e'; done) | (intro _ _ e'; cases e'; done)
  · refine h1 F H σ ρ as (.ok f ρ') _ hs so e1 (fun C ρ'' e' => by cases e') ?_
    cases f with
    | nx =>
      refine ⟨fun ρ'' e2 F1 H1 σ1 as1 k1 g1 s1 => ?_, ?_, ?_, ?_⟩
      · cases e2
        exact h2 F1 H1 σ1 _ as1 o D g1.fh s1 eo (hx.step k1 g1) (hp.step k1 g1)
      all_goals first | (intro _ e'; cases e'; done) | (intro _ _ e'; cases e'; done)
    | bk =>
      obtain rfl := gRet_ok eo
      exact ⟨fun _ e => (by cases e), hp.bk, hp.ct, hp.rt⟩
    | ct =>
      obtain rfl := gRet_ok eo
      exact ⟨fun _ e => (by cases e), hp.bk, hp.ct, hp.rt⟩
    | rt m =>
      obtain rfl := gRet_ok eo
      exact ⟨fun _ e => (by cases e), hp.bk, hp.ct, hp.rt⟩
theorem rn_skip : RN K E kp tNext gSkip := fun F H σ ρ as o D hs so e hx hp => hp.nx ρ (gRet_ok e) F H σ as (.refl _) (.refl hs) so
theorem rn_break : RN K E kp tBreak (gRet .bk) := fun F H σ ρ as o D hs so e hx hp => hp.bk ρ (gRet_ok e) F H σ as (.refl _) (.refl hs) so
theorem rn_cont : RN K E kp tCont (gRet .ct) := fun F H σ ρ as o D hs so e hx hp => hp.ct ρ (gRet_ok e) F H σ as (.refl _) (.refl hs) so
theorem rn_never : RN K E kp tNever (fun _ => none) := fun F H σ ρ as o D hs so e hx hp => by cases e
theorem rn_if {c : TT} {gc : G Bool} (hc : ET K E kp c gc) (h1 : RN K E kp t g) (h2 : RN K E kp u k) : RN K E kp (tIfS c t u) (gBind gc fun b => gIf b g k) := fun F H σ ρ as o D hs so e hx hp => by
  refine hc.use hs so e hx fun b ρ1 F1 H1 as1 b' g1 so1 r e1 => ?_
  subst r
  cases b' with
  | true => exact h1 F1 H1 σ ρ1 as1 o D g1.fh so1 e1 (hx.step (.refl _) g1) (hp.step (.refl _) g1)
  | false => exact h2 F1 H1 σ ρ1 as1 o D g1.fh so1 e1 (hx.step (.refl _) g1) (hp.step (.refl _) g1)
theorem rn_asgM {gm : G M} {i : Nat} (hi : kp i = false) (he : EM K E kp te gm) : RN K E kp (tAsg te (gName i)) (gBind gm fun m => gSet i m) := fun F H σ ρ as o D hs so e hx hp => by
  refine he.use hs so e hx fun m ρ1 F1 H1 as1 rs v g1 so1 r n e1 => ?_
  obtain ⟨as2, q1, q2⟩ := so1.set i r n
  refine hp.nx _ (Option.some.inj e1).symm F1 H1 _ as2 (Keeps.set hi) (g1.less fun a z => ?_) q1
  exact List.mem_append.mpr (q2 a z)
theorem rn_asg {gm : G D} {i : Nat} (hi : kp i = false) (he : EX K E kp te gm) : RN K E kp (tAsg te (gName i)) (gBind gm fun d => gSet i (.dat d)) := fun F H σ ρ as o D hs so e hx hp => by
  refine he.use hs so e hx fun d ρ1 F1 H1 as1 v g1 so1 r e1 => ?_
  obtain ⟨as2, q1, q2⟩ := so1.set i (.dat r) (by simp)
  refine hp.nx _ (Option.some.inj e1).symm F1 H1 _ as2 (Keeps.set hi) (g1.less fun a z => ?_) q1
  exact (q2 a z).elim id (by simp)
theorem rn_drop {gm : G M} (he : EM K E kp te gm) : RN K E kp (tDrop te) (gBind gm fun _ => gSkip) := fun F H σ ρ as o D hs so e hx hp => by
  refine he.use hs so e hx fun m ρ1 F1 H1 as1 rs v g1 so1 r n e1 => ?_
  exact hp.nx _ (gRet_ok e1) F1 H1 _ as1 (.refl _) g1.left so1
theorem rn_ret {gm : G M} (he : EM K E kp te gm) : RN K E kp (tRet te) (gBind gm fun m => gRet (.rt m)) := fun F H σ ρ as o D hs so e hx hp => by
  refine he.use hs so e hx fun m ρ1 F1 H1 as1 rs v g1 so1 r n e1 => ?_
  exact hp.rt m _ (gRet_ok e1) F1 H1 _ as1 rs v (.refl _) g1 so1 r n
theorem rn_retN : RN K E kp tRetN (gRet (.rt (.dat .non))) := fun F H σ ρ as o D hs so e hx hp => hp.rt _ ρ (gRet_ok e) F H σ as [] .non (.refl _) (by simpa using Gr.refl hs) so (.dat .non) (by simp)
/-- taken out of its slot -/
theorem SO.take : ∀ {σ : L2.St} {ρ : Env} {as : List Addr} {i : Nat} {m : M}, SO K F H σ ρ as → ρ[i]? = some (some m) → ∃ v ms as', σ[i]? = some (some v) ∧ Own K F H v m ms ∧ SO K F H σ (ρ.set i none) as' ∧ (∀ a ∈ ms, a ∈ as ∧ a ∉ as') ∧ ∀ a ∈ as', a ∈ as
  | _, _, _, i, m, .nil _, e => by simp at e
  | _, _, _, 0, m, .no h, e => by simp at e
  | _, _, _, i + 1, m, .no h, e => by
    obtain ⟨v, ms, as', h1, h2, h3, h4⟩ := SO.take h (i := i) (m := m) (by simpa using e)
    exact ⟨v, ms, as', by simpa using h1, h2, .no h3, h4⟩
  | _, _, _, 0, m, .ow (v := v) (as := ms) (bs := bs) ho hs n, e => by
    simp at e
    subst e
    exact ⟨v, ms, bs, rfl, ho, .no hs, fun a z => ⟨List.mem_append_left _ z, n a z⟩, fun a z => List.mem_append_right _ z⟩
  | _, _, _, i + 1, m, .ow (v := v0) (m := m0) (as := bs) (bs := as0) ho hs n, e => by
    obtain ⟨v, ms, as', h1, h2, h3, h4, h5⟩ := SO.take hs (i := i) (m := m) (by simpa using e)
    refine ⟨v, ms, bs ++ as', by simpa using h1, h2, .ow ho h3 fun a z y => n a z (h5 a y), fun a z => ⟨List.mem_append_right _ (h4 a z).1, fun y => ?_⟩, fun a z => ?_⟩
    · rcases List.mem_append.mp y with y | y
      · exact n a y (h4 a z).1
      · exact (h4 a z).2 y
    · rcases List.mem_append.mp z with z | z
      · exact List.mem_append_left _ z
      · exact List.mem_append_right _ (h5 a z)
/-- a slot's tree, moved out of it -/
def gTake (i : Nat) : G M := fun ρ => match ρ[i]? with
  | some (some m) => some (.ok m (ρ.set i none))
  | _ => none
theorem em_take (i : Nat) : EM K E kp (tVar i) (gTake i) := fun F H σ ρ as o Q hs so e hx k => by
  unfold gTake at e
  split at e
  · rename_i m em
    obtain ⟨v, ms, as', h1, h2, h3, h4, h5⟩ := so.take em
    refine ⟨v, h1, k m _ (Option.some.inj e).symm F H as' ms v ((Gr.refl hs).less fun a z => ?_) h3 h2 fun z hz => (h4 z hz).2⟩
    rcases List.mem_append.mp z with z | z
    · exact h5 a z
    · exact (h4 a z).1
  · cases e
/-- a slot's tree, frozen there -/
def gFrz (i : Nat) : G D := fun ρ => match ρ[i]? with
  | some (some m) => (match m.view with
    | some d => some (.ok d (ρ.set i (some (.dat d))))
    | none => none)
  | _ => none
theorem ex_frz (i : Nat) : EX K E kp (tVar i) (gFrz i) := fun F H σ ρ as o Q hs so e hx k => by
  unfold gFrz at e
  split at e
  · rename_i m em
    split at e
    · rename_i d ed
      obtain ⟨v, ms, h1, h2, h3, h4⟩ := so.at em
      have d1 := h2.freeze hs ed (bs := ms) fun _ z => z
      have g3 : Gr F H ms (frz F H ms) H [] := .frz' (frz_same hs) (frz_le hs) (fun a z => by simp at z) (fun a e _ q => by rw [frz_out q]; exact e) frz_tab
      obtain ⟨as', q1, q2⟩ := h4 ms _ H _ [] (fun _ z _ => z) g3 (.dat d1)
      exact ⟨v, h1, k d _ (Option.some.inj e).symm _ H as' v (g3.lift h3 (fun a z => (q2 a z).imp And.left id)) q1 d1⟩
    · cases e
  · cases e
/-- while, with so many turns at most -/
def gWhile (c : G Bool) (b : G Fl) : Nat → G Fl
  | 0 => fun _ => none
  | n + 1 => gBind c fun t => bif t then gBind b fun f => match f with
      | .nx => gWhile c b n
      | .ct => gWhile c b n
      | .bk => gSkip
      | .rt m => gRet (.rt m)
    else gSkip
theorem rn_while {c : TT} {gc : G Bool} (hc : ET K E kp c gc) (hb : RN K E kp tb gb) (n : Nat) : RN K E kp (tWhile c tb) (gWhile gc gb n) := fun F H σ ρ as o D hs so e hx hp => by
  refine ⟨fun m σ' H' => ∃ F' ρ' as', Keeps kp σ σ' ∧ Gr F H as F' H' as' ∧ SO K F' H' σ' ρ' as' ∧ gWhile gc gb m ρ' = some o, ⟨n, F, ρ, as, .refl _, .refl hs, so, e⟩, ?_⟩
  rintro m σ1 H1 ⟨F1, ρ1, as1, k1, g1, so1, e1⟩
  cases m with
  | zero => cases e1
  | succ m =>
    refine hc.use g1.fh so1 e1 (hx.step k1 g1) fun b ρ2 F2 H2 as2 b' g2 so2 r e2 => ?_
    subst r
    have g12 := g1.trans g2
    cases b' with
    | false =>
      obtain rfl := gRet_ok e2
      show D.nx σ1 H2
      exact hp.nx _ rfl F2 H2 σ1 as2 k1 g12 so2
    | true =>
      refine ⟨fun σ' H' => ∃ F' ρ' as', Keeps kp σ σ' ∧ Gr F H as F' H' as' ∧ SO K F' H' σ' ρ' as' ∧ gWhile gc gb m ρ' = some o, fun σ' H' q => ⟨m, Nat.lt_succ_self m, q⟩, ?_⟩
      have e2 : gBind gb _ ρ2 = some o := e2
      rcases gBind_cases e2 with ⟨C, ρ', e3, eo⟩ | ⟨f, ρ', e3, eo⟩
      · subst eo
        refine hb F2 H2 σ1 ρ2 as2 (.ex C ρ') _ g12.fh so2 e3 (hx.step k1 g12) ?_
        refine ⟨?_, ?_, ?_, ?_⟩ <;> first | (intro _ e'; cases e'; done) | (intro _ _ e'; cases e'; done)
      · refine hb F2 H2 σ1 ρ2 as2 (.ok f ρ') _ g12.fh so2 e3 (fun C ρ'' e' => by cases e') ?_
        cases f with
        | nx =>
          refine ⟨fun ρ'' e4 F3 H3 σ3 as3 k3 g3 s3 => ?_, ?_, ?_, ?_⟩
          · cases e4
            exact ⟨F3, _, as3, k1.trans k3, g12.trans g3, s3, eo⟩
          all_goals first | (intro _ e'; cases e'; done) | (intro _ _ e'; cases e'; done)
        | ct =>
          refine ⟨?_, ?_, fun ρ'' e4 F3 H3 σ3 as3 k3 g3 s3 => ?_, ?_⟩
          case refine_3 =>
            cases e4
            exact ⟨F3, _, as3, k1.trans k3, g12.trans g3, s3, eo⟩
          all_goals first | (intro _ e'; cases e'; done) | (intro _ _ e'; cases e'; done)
        | bk =>
          obtain rfl := gRet_ok eo
          refine ⟨?_, fun ρ'' e4 F3 H3 σ3 as3 k3 g3 s3 => ?_, ?_, ?_⟩
          case refine_2 =>
            cases e4
            exact hp.nx _ rfl F3 H3 σ3 as3 (k1.trans k3) (g12.trans g3) s3
          all_goals first | (intro _ e'; cases e'; done) | (intro _ _ e'; cases e'; done)
        | rt mm =>
          obtain rfl := gRet_ok eo
          refine ⟨?_, ?_, ?_, fun m' ρ'' e4 F3 H3 σ3 as3 rs v k3 g3 s3 o3 n3 => ?_⟩
          case refine_4 =>
            cases e4
            exact hp.rt _ _ rfl F3 H3 σ3 as3 rs v (k1.trans k3) (g12.trans g3) s3 o3 n3
          all_goals first | (intro _ e'; cases e'; done) | (intro _ _ e'; cases e'; done)

/-! ### what is walked -/
def Walks (K : Kx) (F H : Hp) (J : It) (ds : List D) : Prop := ∀ i F1 H1, Same F F1 → Same F1 H1 → ((∀ d, ds[i]? = some d → J.go i H1 ∧ ∀ x H2, J.yld i H1 x H2 → ∃ F2, Gr F1 H1 [] F2 H2 [] ∧ DV K F2 x d) ∧ (ds.length ≤ i → J.stop i H1))
def JI (K : Kx) (E : XK) (kp : Nat → Bool) (wi : TI) (gi : G (List D)) : Prop :=
  ∀ F H σ ρ as o R, Same F H → SO K F H σ ρ as → gi ρ = some o → XP K E kp F H σ as o →
    (∀ ds ρ', o = .ok ds ρ' → ∀ F' H' as' J, Gr F H as F' H' as' → SO K F' H' σ ρ' as' → Walks K F' H' J ds → R J H') → wi σ H R
/-- a target -/
def JT (K : Kx) (kp : Nat → Bool) (g : TG) (st : D → G Unit) : Prop :=
  ∀ F H σ ρ as v d o Q, Same F H → SO K F H σ ρ as → DV K F v d → st d ρ = some o → (∀ ρ', o = .ok () ρ' → ∀ σ' as', Keeps kp σ σ' → (∀ a ∈ as', a ∈ as) → SO K F H σ' ρ' as' → Q σ' H) → g v σ H Q
def gTo (i : Nat) : D → G Unit := fun d ρ => some (.ok () (ρ.set i (some (.dat d))))
theorem jt_name {i : Nat} (hi : kp i = false) : JT K kp (gName i) (gTo i) := fun F H σ ρ as v d o Q hs so r e k => by
  obtain ⟨as2, q1, q2⟩ := so.set i (.dat r) (by simp)
  exact k _ (Option.some.inj e).symm _ as2 (Keeps.set hi) (fun a z => (q2 a z).elim id (by simp)) q1
def JTs (K : Kx) (kp : Nat → Bool) (g : TGs) (st : List D → G Unit) : Prop :=
  ∀ F H σ ρ as v d o Q, Same F H → SO K F H σ ρ as → DVs K F v d → st d ρ = some o → (∀ ρ', o = .ok () ρ' → ∀ σ' as', Keeps kp σ σ' → (∀ a ∈ as', a ∈ as) → SO K F H σ' ρ' as' → Q σ' H) → g v σ H Q
def gToNil : List D → G Unit
  | [] => gRet ()
  | _ => fun _ => none
def gToCons (s : D → G Unit) (r : List D → G Unit) : List D → G Unit
  | d :: ds => gBind (gCalm (s d)) fun _ => r ds
  | [] => fun _ => none
def gToTup (n : Nat) (s : List D → G Unit) : D → G Unit
  | .tup ds => if ds.length = n then s ds else fun _ => none
  | _ => fun _ => none
theorem jts_nil : JTs K kp gNil gToNil := fun F H σ ρ as v d o Q hs so r e k => by
  cases r with
  | nil => exact ⟨rfl, k ρ (gRet_ok e) σ as (.refl _) (fun _ z => z) so⟩
  | cons _ _ => cases e
theorem jts_cons {g : TG} {gs : TGs} {s : D → G Unit} {r : List D → G Unit} (h1 : JT K kp g s) (h2 : JTs K kp gs r) : JTs K kp (gCons g gs) (gToCons s r) := fun F H σ ρ as v d o Q hs so rr e k => by
  cases rr with
  | nil => cases e
  | cons hd ht =>
    rename_i v0 vs d0 ds
    refine ⟨v0, vs, rfl, ?_⟩
    rcases gBind_cases (show gBind (gCalm (s d0)) _ ρ = some o from e) with ⟨C, ρ', e1, eo⟩ | ⟨f, ρ', e1, eo⟩
    · obtain ⟨a, ρ2, e2, e3⟩ := gCalm_ok e1
      cases e2
    · obtain ⟨a, ρ2, e2, e3⟩ := gCalm_ok e1
      cases e2
      refine h1 F H σ ρ as v0 d0 _ _ hs so hd e3 fun ρ'' e4 σ1 as1 k1 s1 so1 => ?_
      cases e4
      exact h2 F H σ1 _ as1 vs ds o Q hs so1 ht eo fun ρ3 e5 σ3 as3 k3 s3 so3 => k ρ3 e5 σ3 as3 (k1.trans k3) (fun a z => s1 a (s3 a z)) so3
theorem jt_tup {n : Nat} {gs : TGs} {r : List D → G Unit} (h : JTs K kp gs r) : JT K kp (gTup K.K n gs) (gToTup n r) := fun F H σ ρ as v d o Q hs so rr e k => by
  cases d with
  | tup ds =>
    obtain ⟨a, xs, rfl, h1, h2⟩ := rr.tup_inv
    have e : (if ds.length = n then r ds else fun _ => none) ρ = some o := e
    split at e
    · rename_i hn
      exact ⟨a, xs, rfl, SqT.mono hs h1, h2.length.trans hn, h F H σ ρ as xs ds o Q hs so h2 e k⟩
    · cases e
  | _ => cases e

def gForL (st : D → G Unit) (b : G Fl) : List D → G Fl
  | [] => gSkip
  | d :: ds => gBind (gCalm (st d)) fun _ => gBind b fun f => match f with
    | .nx => gForL st b ds
    | .ct => gForL st b ds
    | .bk => gSkip
    | .rt m => gRet (.rt m)
theorem rn_for {wi : TI} {gi : G (List D)} {tg : TG} {st : D → G Unit} (hi : JI K E kp wi gi) (ht : JT K kp tg st) (hb : RN K E kp tb gb) : RN K E kp (tFor wi tg tb) (gBind gi fun ds => gForL st gb ds) := fun F H σ ρ as o D hs so e hx hp => by
  rcases gBind_cases e with ⟨C, ρ', e1, eo⟩ | ⟨ds, ρ', e1, eo⟩
  · refine hi F H σ ρ as _ _ hs so e1 (hx.to fun C' ρ'' e' => by rw [eo]; cases e'; rfl) fun ds ρ'' e' => by cases e'
  · refine hi F H σ ρ as _ _ hs so e1 (hx.to fun C' ρ'' e' => by cases e') fun ds' ρ'' e' F0 H0 as0 J g0 so0 wk => ?_
    cases e'
    refine ⟨fun i m σ' H' => i + m = ds.length ∧ ∃ F' ρ' as', Keeps kp σ σ' ∧ Gr F0 H0 as0 F' H' as' ∧ SO K F' H' σ' ρ' as' ∧ gForL st gb (ds.drop i) ρ' = some o, ⟨ds.length, by simp, F0, ρ', as0, .refl _, .refl g0.fh, so0, eo⟩, ?_⟩
    rintro i m σ1 H1 ⟨em, F1, ρ1, as1, k1, g1, so1, e1'⟩
    have g01 := g0.trans g1
    obtain ⟨wgo, wst⟩ := wk i F1 H1 g1.ff g1.fh
    by_cases hlt : i < ds.length
    · obtain ⟨go, yl⟩ := wgo ds[i] (List.getElem?_eq_getElem hlt)
      refine .inr ⟨go, fun σ' H' => ∃ F' ρ' as', Keeps kp σ σ' ∧ Gr F0 H0 as0 F' H' as' ∧ SO K F' H' σ' ρ' as' ∧ gForL st gb (ds.drop (i + 1)) ρ' = some o, fun σ' H' q => ⟨m - 1, by omega, by omega, q⟩, fun x H2 y => ?_⟩
      obtain ⟨F2, g2, r2⟩ := yl x H2 y
      have so2 := so1.grow g2
      have g12 : Gr F0 H0 as0 F2 H2 as1 := g1.trans (g2.weak as1)
      rw [List.drop_eq_getElem_cons hlt] at e1'
      rcases gBind_cases (show gBind (gCalm (st ds[i])) _ ρ1 = some o from e1') with ⟨C, ρ2, e2, eo2⟩ | ⟨f, ρ2, e2, eo2⟩
      · obtain ⟨a, ρ3, e3, e4⟩ := gCalm_ok e2
        cases e3
      · obtain ⟨a, ρ3, e3, e4⟩ := gCalm_ok e2
        cases e3
        refine ht F2 H2 σ1 ρ1 as1 x _ _ _ g2.fh so2 r2 e4 fun ρ4 e5 σ4 as4 k4 s4 so4 => ?_
        cases e5
        have g4 : Gr F0 H0 as0 F2 H2 as4 := g12.less s4
        have g4' := g0.trans g4
        have k14 := k1.trans k4
        rcases gBind_cases (show gBind gb _ ρ2 = some o from eo2) with ⟨C, ρ5, e6, eo3⟩ | ⟨f, ρ5, e6, eo3⟩
        · subst eo3
          refine hb F2 H2 σ4 ρ2 as4 (.ex C ρ5) _ g4.fh so4 e6 (hx.step k14 g4') ?_
          refine ⟨?_, ?_, ?_, ?_⟩ <;> first | (intro _ e'; cases e'; done) | (intro _ _ e'; cases e'; done)
        · refine hb F2 H2 σ4 ρ2 as4 (.ok f ρ5) _ g4.fh so4 e6 (fun C ρ'' e' => by cases e') ?_
          cases f with
          | nx =>
            refine ⟨fun ρ'' e7 F3 H3 σ3 as3 k3 g3 s3 => ?_, ?_, ?_, ?_⟩
            · cases e7
              exact ⟨F3, _, as3, k14.trans k3, g4.trans g3, s3, eo3⟩
            all_goals first | (intro _ e'; cases e'; done) | (intro _ _ e'; cases e'; done)
          | ct =>
            refine ⟨?_, ?_, fun ρ'' e7 F3 H3 σ3 as3 k3 g3 s3 => ?_, ?_⟩
            case refine_3 =>
              cases e7
              exact ⟨F3, _, as3, k14.trans k3, g4.trans g3, s3, eo3⟩
            all_goals first | (intro _ e'; cases e'; done) | (intro _ _ e'; cases e'; done)
          | bk =>
            obtain rfl := gRet_ok eo3
            refine ⟨?_, fun ρ'' e7 F3 H3 σ3 as3 k3 g3 s3 => ?_, ?_, ?_⟩
            case refine_2 =>
              cases e7
              exact hp.nx _ rfl F3 H3 σ3 as3 (k14.trans k3) (g4'.trans g3) s3
            all_goals first | (intro _ e'; cases e'; done) | (intro _ _ e'; cases e'; done)
          | rt mm =>
            obtain rfl := gRet_ok eo3
            refine ⟨?_, ?_, ?_, fun m' ρ'' e7 F3 H3 σ3 as3 rs v k3 g3 s3 o3 n3 => ?_⟩
            case refine_4 =>
              cases e7
              exact hp.rt _ _ rfl F3 H3 σ3 as3 rs v (k14.trans k3) (g4'.trans g3) s3 o3 n3
            all_goals first | (intro _ e'; cases e'; done) | (intro _ _ e'; cases e'; done)
    · refine .inl ⟨wst (by omega), ?_⟩
      rw [List.drop_of_length_le (by omega)] at e1'
      obtain rfl := gRet_ok e1'
      exact hp.nx _ rfl F1 H1 σ1 as1 k1 g01 so1
end
end Y
/-! Y: comprehensions; defs and their calls. -/
namespace Y
open PySem L2
variable [TabC]
def wipeE (ρ : Env) : List Nat → Env
  | [] => ρ
  | v :: vs => (wipeE ρ vs).set v none
section
variable {K : Kx} {E : XK} {kp : Nat → Bool} {F F' F1 F2 H H' H1 H2 : Hp} {as as' as1 as2 bs : List Addr} {σ σ' σ1 : L2.St} {ρ : Env} {te : TE}
theorem SO.forget : ∀ {σ : L2.St} {ρ : Env} {as : List Addr} (i : Nat), SO K F H σ ρ as → ∃ as', SO K F H σ (ρ.set i none) as' ∧ ∀ a, a ∈ as' → a ∈ as
  | _, _, _, i, .nil t => ⟨[], .nil t, fun _ z => z⟩
  | _, _, _, 0, .no h => ⟨_, .no h, fun _ z => z⟩
  | _, _, _, 0, .ow _ h _ => ⟨_, .no h, fun a z => List.mem_append_right _ z⟩
  | _, _, _, i + 1, .no h => by
    obtain ⟨as', q1, q2⟩ := SO.forget i h
    exact ⟨as', .no q1, q2⟩
  | _, _, _, i + 1, .ow (as := as0) h hs n => by
    obtain ⟨as', q1, q2⟩ := SO.forget i hs
    refine ⟨as0 ++ as', .ow h q1 fun a z y => n a z (q2 a y), fun a z => ?_⟩
    rcases List.mem_append.mp z with z | z
    · exact List.mem_append_left _ z
    · exact List.mem_append_right _ (q2 a z)
theorem SO.wipeE : ∀ (vs : List Nat) {ρ : Env} {as : List Addr}, SO K F H σ ρ as → ∃ as', SO K F H σ (wipeE ρ vs) as' ∧ ∀ a, a ∈ as' → a ∈ as
  | [], _, _, h => ⟨_, h, fun _ z => z⟩
  | v :: vs, _, _, h => by
    obtain ⟨as1, q1, q2⟩ := SO.wipeE vs h
    obtain ⟨as2, q3, q4⟩ := SO.forget v q1
    exact ⟨as2, q3, fun a z => q2 a (q4 a z)⟩
theorem SO.swap : ∀ {σ σ' : L2.St} {ρ : Env} {as : List Addr}, SO K F H σ ρ as → σ'.length = σ.length → (∀ (i : Nat) m, ρ[i]? = some (some m) → σ'[i]? = σ[i]?) → SO K F H σ' ρ as
  | _, [], _, _, .nil t, _, _ => .nil t
  | _, _ :: _, _, _, .nil _, e, _ => by simp at e
  | _, [], _, _, .no h, e, _ => by simp at e
  | _, x :: σ', _, _, .no h, e, q => .no (SO.swap h (by simpa using e) fun i m hm => by simpa using q (i + 1) m (by simpa using hm))
  | _, [], _, _, .ow _ _ _, e, _ => by simp at e
  | _, x :: σ', _, _, .ow (v := v) (m := m) h hs n, e, q => by
    have e0 := q 0 m rfl
    simp at e0
    subst e0
    exact .ow h (SO.swap hs (by simpa using e) fun i m hm => by simpa using q (i + 1) m (by simpa using hm)) n
theorem wipe_out {σ : L2.St} {i : Nat} : ∀ {vs : List Nat}, i ∉ vs → (wipe σ vs)[i]? = σ[i]?
  | [], _ => rfl
  | v :: vs, h => by
    show ((wipe σ vs).set v none)[i]? = _
    rw [List.getElem?_set_ne (fun e => h (by rw [e]; exact List.mem_cons_self)), wipe_out fun z => h (List.mem_cons_of_mem _ z)]
theorem wipe_in {σ : L2.St} {i : Nat} : ∀ {vs : List Nat}, i ∈ vs → (L2.wipe σ vs)[i]? = if i < σ.length then some none else none
  | [], h => by simp at h
  | v :: vs, h => by
    show ((L2.wipe σ vs).set v none)[i]? = _
    by_cases hv : v = i
    · subst hv
      by_cases hl : v < σ.length
      · rw [List.getElem?_set_self (by rw [wipe_length]; exact hl), if_pos hl]
      · rw [List.getElem?_eq_none (by rw [List.length_set, wipe_length]; omega), if_neg hl]
    · rw [List.getElem?_set_ne hv]
      exact wipe_in ((List.mem_cons.mp h).resolve_left fun e => hv e.symm)
theorem wipeE_in {i : Nat} {m : M} : ∀ {vs : List Nat} {ρ : Env}, (Y.wipeE ρ vs)[i]? = some (some m) → i ∉ vs
  | [], _, _ => by simp
  | v :: vs, ρ, h => by
    have h : ((Y.wipeE ρ vs).set v none)[i]? = some (some m) := h
    by_cases hv : v = i
    · subst hv
      by_cases hl : v < (Y.wipeE ρ vs).length
      · rw [List.getElem?_set_self hl] at h
        cases h
      · rw [List.getElem?_eq_none (by simpa using hl)] at h
        cases h
    · rw [List.getElem?_set_ne hv] at h
      have := wipeE_in h
      intro z
      rcases List.mem_cons.mp z with z | z
      · exact hv z.symm
      · exact this z
theorem SO.wipe (vs : List Nat) (h : SO K F H σ ρ as) : ∃ as', SO K F H (L2.wipe σ vs) (Y.wipeE ρ vs) as' ∧ ∀ a, a ∈ as' → a ∈ as := by
  obtain ⟨as1, q1, q2⟩ := SO.wipeE vs h
  exact ⟨as1, q1.swap (wipe_length σ vs) fun i m e => wipe_out (wipeE_in e), q2⟩
theorem SO.unwipe (vs : List Nat) (h : SO K F H (L2.wipe σ vs) ρ as) : ∃ as', SO K F H σ (Y.wipeE ρ vs) as' ∧ ∀ a, a ∈ as' → a ∈ as := by
  obtain ⟨as1, q1, q2⟩ := SO.wipeE vs h
  exact ⟨as1, q1.swap (wipe_length σ vs).symm fun i m e => (wipe_out (wipeE_in e)).symm, q2⟩

/-! ### comprehensions whose elements may change what is owned -/
def gLc (st : D → G Unit) (tt : G Bool) (ge : G D) (vs : List Nat) : List D → List D → G (List D)
  | [], acc => gRet acc
  | d :: ds, acc => gBind (gCalm (st d)) fun _ => gBind (gCalm tt) fun b => bif b then gBind (gCalm ge) fun y => fun ρ => gLc st tt ge vs ds (acc ++ [y]) (wipeE ρ vs) else fun ρ => gLc st tt ge vs ds acc (wipeE ρ vs)
def gComp (gi : G (List D)) (st : D → G Unit) (tt : G Bool) (ge : G D) (vs : List Nat) : G M := gBind gi fun ds ρ1 => gBind (gLc st tt ge vs ds []) (fun acc ρ2 => if acc.length ≤ 100000 then some (.ok (.lst (acc.map M.dat)) (wipeE ρ2 vs)) else none) (wipeE ρ1 vs)
theorem gCalm_use {α β : Type} {g : G α} {k : α → G β} {ρ : Env} {o : Rs β} (h : gBind (gCalm g) k ρ = some o) : ∃ a ρ', g ρ = some (.ok a ρ') ∧ k a ρ' = some o := by
  rcases gBind_cases h with ⟨C, ρ', e, eo⟩ | ⟨a, ρ', e, eo⟩
  · obtain ⟨a, ρ2, e2, e3⟩ := gCalm_ok e
    cases e2
  · obtain ⟨b, ρ2, e2, e3⟩ := gCalm_ok e
    cases e2
    exact ⟨_, _, e3, eo⟩
theorem XP.ok {α : Type} {a : α} {ρ' : Env} : XP K E kp F H σ as (.ok a ρ') := fun C ρ'' e => by cases e
theorem Owns.dats : ∀ {vs : List V} {ds : List D}, DVs K F vs ds → Owns K F H vs (ds.map M.dat) []
  | _, _, .nil => .nil
  | _, _, .cons h hs => .cons (as := []) (bs := []) (.dat h) (Owns.dats hs) (by simp)
theorem gLc_calm (st : D → G Unit) (tt : G Bool) (ge : G D) (vs : List Nat) : ∀ (ds acc : List D) (ρ : Env) (C : Nat) (ρ' : Env), gLc st tt ge vs ds acc ρ ≠ some (.ex C ρ')
  | [], acc, ρ, C, ρ', e => by cases e
  | d :: ds, acc, ρ, C, ρ', e => by
    obtain ⟨_, ρ1, _, e1⟩ := gCalm_use (show gBind (gCalm (st d)) _ ρ = _ from e)
    obtain ⟨b, ρ2, _, e2⟩ := gCalm_use (show gBind (gCalm tt) _ ρ1 = _ from e1)
    cases b with
    | true =>
      obtain ⟨y, ρ3, _, e3⟩ := gCalm_use (show gBind (gCalm ge) _ ρ2 = _ from e2)
      exact gLc_calm st tt ge vs ds _ _ C ρ' e3
    | false => exact gLc_calm st tt ge vs ds _ _ C ρ' e2
theorem em_comp {wi : TI} {gi : G (List D)} {tg : TG} {st : D → G Unit} {tt : TT} {gt : G Bool} {ge : G D} {vs : List Nat} (hi : JI K E kp wi gi) (ht : JT K (fun i => decide (i ∉ vs)) tg st) (hc : ET K E0 kp tt gt) (he : EX K E0 kp te ge) : EM K E kp (tLc wi tg tt te vs) (gComp gi st gt ge vs) := fun F H σ ρ as o Q hs so e hx k => by
  rcases gBind_cases e with ⟨C, ρ', e1, eo⟩ | ⟨ds, ρ', e1, eo⟩
  · refine hi F H σ ρ as _ _ hs so e1 (hx.to fun C' ρ'' e' => by rw [eo]; cases e'; rfl) fun ds ρ'' e' => by cases e'
  · refine hi F H σ ρ as _ _ hs so e1 (hx.to fun C' ρ'' e' => by cases e') fun ds' ρ'' e' F0 H0 as0 J g0 so0 wk => ?_
    cases e'
    intro L hL
    rcases gBind_cases eo with ⟨C, ρ2, e2, eo2⟩ | ⟨acc, ρ2, e2, eo2⟩
    · exact absurd e2 (gLc_calm _ _ _ _ _ _ _ _ _)
    · split at eo2
      case isFalse => cases eo2
      rename_i hacc
      obtain ⟨asw, sow, subw⟩ := so0.wipe vs
      have fL : F0 L = none := g0.fh.free hL
      have gL : Gr F0 H0 [] F0 (upd H0 L (.lst [])) [L] := Gr.new g0.fh hL
      have nLw : L ∉ asw := fun z => (so0.has L (subw L z)).1 hL
      -- one word: the new list stands at L, of what is gathered
      refine ⟨fun i m H' => i + m = ds.length ∧ ∃ F' ρ' as' acc' ws, Gr F0 (upd H0 L (.lst [])) (L :: asw) F' H' (L :: as') ∧ H' L = some (.lst ws) ∧ F' L = none ∧ DVs K F' ws acc' ∧ L ∉ as' ∧ SO K F' H' (L2.wipe σ vs) ρ' as' ∧ gLc st gt ge vs (ds.drop i) acc' ρ' = some (.ok acc ρ2),
        ⟨ds.length, by simp, F0, _, asw, [], [], .refl gL.fh, upd_same, fL, .nil, nLw, sow.frame gL (by simp), e2⟩, ?_⟩
      rintro i m H1 ⟨em, F1, ρ1, as1, acc1, ws, g1, hL1, fL1, dv1, nL1, so1, e1'⟩
      obtain ⟨wgo, wst⟩ := wk i F1 H1 g1.ff g1.fh
      have lacc : acc1.length ≤ acc.length := by
        have key : ∀ (ds acc1 : List D) (ρ1 : Env), gLc st gt ge vs ds acc1 ρ1 = some (.ok acc ρ2) → acc1.length ≤ acc.length := by
          intro ds
          induction ds with
          | nil => intro acc1 ρ1 e; cases e; exact Nat.le_refl _
          | cons d ds ih =>
            intro acc1 ρ1 e
            obtain ⟨_, ρ3, _, e1⟩ := gCalm_use (show gBind (gCalm (st d)) _ ρ1 = _ from e)
            obtain ⟨b, ρ4, _, e2⟩ := gCalm_use (show gBind (gCalm gt) _ ρ3 = _ from e1)
            cases b with
            | true =>
              obtain ⟨y, ρ5, _, e3⟩ := gCalm_use (show gBind (gCalm ge) _ ρ4 = _ from e2)
              have := ih _ _ e3
              simp at this
              omega
            | false => exact ih _ _ e2
        exact key _ _ _ e1'
      by_cases hlt : i < ds.length
      · obtain ⟨go, yl⟩ := wgo ds[i] (List.getElem?_eq_getElem hlt)
        refine .inr ⟨go, fun H' => ∃ F' ρ' as' acc' ws, Gr F0 (upd H0 L (.lst [])) (L :: asw) F' H' (L :: as') ∧ H' L = some (.lst ws) ∧ F' L = none ∧ DVs K F' ws acc' ∧ L ∉ as' ∧ SO K F' H' (L2.wipe σ vs) ρ' as' ∧ gLc st gt ge vs (ds.drop (i + 1)) acc' ρ' = some (.ok acc ρ2), fun H' q => ⟨m - 1, by omega, by omega, q⟩, fun x H2 y => ?_⟩
        obtain ⟨F2, g2, r2⟩ := yl x H2 y
        rw [List.drop_eq_getElem_cons hlt] at e1'
        obtain ⟨_, ρ3, e3, e4⟩ := gCalm_use (show gBind (gCalm (st ds[i])) _ ρ1 = _ from e1')
        obtain ⟨b, ρ4, e5, e6⟩ := gCalm_use (show gBind (gCalm gt) _ ρ3 = _ from e4)
        have so2 := so1.grow g2
        refine ht F2 H2 _ ρ1 as1 x _ _ _ g2.fh so2 r2 e3 fun ρ3' eρ σ3 as3 k3 s3 so3 => ?_
        cases eρ
        have g2w : Gr F1 H1 (L :: as1) F2 H2 (L :: as1) := g2.weak _
        have hw : L2.wipe σ3 vs = L2.wipe σ vs := by
          apply List.ext_getElem?
          intro j
          by_cases hj : j ∈ vs
          · rw [wipe_in hj, wipe_in hj, k3.2, wipe_length]
          · rw [wipe_out hj, k3.1 j (decide_eq_true hj)]
        refine ⟨hw, ?_⟩
        have g3 : Gr F1 H1 as1 F2 H2 as3 := (g2.weak as1).less s3
        refine hc F2 H2 σ3 ρ3 as3 _ _ g3.fh so3 e5 .ok fun b' ρ4' eρ F4 H4 as4 b2 g4 so4 rb => ?_
        cases eρ
        subst rb
        -- what a step of the block leaves of the new list
        have outL : ∀ {F' H' : Hp} {as' : List Addr}, Gr F1 H1 as1 F' H' as' → H' L = some (.lst ws) ∧ F' L = none ∧ L ∉ as' := fun {F' H' as'} g => ⟨g.hh _ _ hL1 nL1, g.fz _ fL1 (by rw [hL1]; simp) nL1, g.out (by rw [hL1]; simp) nL1⟩
        have big : ∀ {F' H' : Hp} {as' : List Addr}, Gr F1 H1 as1 F' H' as' → Gr F0 (upd H0 L (.lst [])) (L :: asw) F' H' (L :: as') := fun {F' H' as'} g => g1.trans (g.more (bs := L :: as1) (as2 := L :: as') (fun a z => List.mem_cons_of_mem _ z) (fun a z => List.mem_cons_of_mem _ z) fun a z => by
          rcases List.mem_cons.mp z with z | z
          · exact .inr (by rw [z]; exact List.mem_cons_self)
          · exact .inl z)
        have g4' := g3.trans g4
        cases b2 with
        | true =>
          obtain ⟨yd, ρ5, e7, e8⟩ := gCalm_use (show gBind (gCalm ge) _ ρ4 = _ from e6)
          show te σ3 H4 _
          refine he F4 H4 σ3 ρ4 as4 _ _ g4.fh so4 e7 .ok fun y' ρ5' eρ F5 H5 as5 v5 g5 so5 r5 => ?_
          cases eρ
          have g5' := g4'.trans g5
          obtain ⟨o1, o2, o3⟩ := outL g5'
          have l1 : ws.length = acc1.length := dv1.length
          refine ⟨ws, o1, Nat.lt_of_lt_of_le (by omega : ws.length < 100001) (by decide), ?_⟩
          have so5w : SO K F5 H5 (L2.wipe σ3 vs) (wipeE ρ5 vs) _ := (so5.wipe vs).choose_spec.1
          obtain ⟨as6, so6, sub6⟩ := so5.wipe vs
          rw [hw] at so6
          have gm : Gr F5 H5 [L] F5 (upd H5 L (.lst (ws ++ [v5]))) [L] := Gr.mut g5.fh o2 (by simp)
          refine ⟨F5, wipeE ρ5 vs, as6, acc1 ++ [yd], ws ++ [v5], ?_, upd_same, o2, (dv1.mono g5'.ff).append (DVs.one r5), fun z => o3 (sub6 _ z), so6.frame gm (fun b hb z => ?_), e8⟩
          · refine (big (g5'.less sub6)).trans (gm.more (fun a z => ?_) (fun a z => ?_) fun a z => ?_)
            · rw [List.mem_singleton] at z
              rw [z]
              exact List.mem_cons_self
            · rw [List.mem_singleton] at z
              rw [z]
              exact List.mem_cons_self
            · exact .inr z
          · rw [List.mem_singleton] at z
            subst z
            exact o3 (sub6 _ hb)
        | false =>
          show ∃ F' ρ' as' acc' ws, _
          obtain ⟨as6, so6, sub6⟩ := so4.wipe vs
          rw [hw] at so6
          obtain ⟨o1, o2, o3⟩ := outL g4'
          exact ⟨F4, wipeE ρ4 vs, as6, acc1, ws, big (g4'.less sub6), o1, o2, dv1.mono g4'.ff, fun z => o3 (sub6 _ z), so6, e6⟩
      · refine .inl ⟨wst (by omega), ?_⟩
        rw [List.drop_of_length_le (by omega)] at e1'
        cases e1'
        obtain ⟨as2, so2, sub2⟩ := so1.unwipe vs
        refine k _ _ (Option.some.inj eo2).symm F1 H1 as2 [L] (.ref L) ?_ so2 (.lst hL1 fL1 (Owns.dats dv1) (by simp)) (fun z hz => by
          rw [List.mem_singleton] at hz
          subst hz
          exact fun y => nL1 (sub2 _ y))
        have g3 := (gL.more (bs := as0) (as2 := L :: as0) (by simp) (by simp) (by simp)).trans (g1.more (bs := L :: as0) (as2 := L :: as1) (fun a z => ?_) (fun a z => z) (fun a z => .inl z))
        · refine (g0.trans g3).less fun a z => ?_
          rcases List.mem_append.mp z with z | z
          · exact List.mem_cons_of_mem _ (sub2 a z)
          · exact List.mem_cons.mpr (.inl (List.mem_singleton.mp z))
        · rcases List.mem_cons.mp z with z | z
          · exact List.mem_cons.mpr (.inl z)
          · exact List.mem_cons_of_mem _ (subw a z)
end
end Y
/-! Y: pure comprehensions; defs and their calls. -/
namespace Y
open PySem L2
variable [TabC]
def WalksP (K : Kx) (F H : Hp) (J : It) (ds : List D) : Prop := ∀ i F1 H1, Gr F H [] F1 H1 [] → ((∀ d, ds[i]? = some d → J.go i H1 ∧ ∀ x H2, J.yld i H1 x H2 → ∃ F2, Gr F1 H1 [] F2 H2 [] ∧ DV K F2 x d) ∧ (ds.length ≤ i → J.stop i H1))
def JIP (K : Kx) (wi : TI) (gi : Env → Option (List D)) : Prop :=
  ∀ F H σ ρ as ds R, Same F H → SO K F H σ ρ as → gi ρ = some ds → (∀ F' H' J, Gr F H [] F' H' [] → WalksP K F' H' J ds → R J H') → wi σ H R
def gTurn (st : D → G Unit) (tt : Env → Option Bool) (ge : Env → Option M) (ρw : Env) (d : D) : Option (Option D) := match st d ρw with
  | some (.ok () ρ3) => (match tt ρ3 with
    | some true => (match ge ρ3 with
      | some (.dat y) => some (some y)
      | _ => none)
    | some false => some none
    | none => none)
  | _ => none
def gLcP (st : D → G Unit) (tt : Env → Option Bool) (ge : Env → Option M) (ρw : Env) : List D → Option (List D)
  | [] => some []
  | d :: ds => match gTurn st tt ge ρw d, gLcP st tt ge ρw ds with
    | some (some y), some r => some (y :: r)
    | some none, some r => some r
    | _, _ => none
def gCompP (gi : Env → Option (List D)) (st : D → G Unit) (tt : Env → Option Bool) (ge : Env → Option M) (vs : List Nat) : Env → Option M := fun ρ => match gi ρ with
  | some ds => (match gLcP st tt ge (wipeE ρ vs) ds with
    | some acc => if acc.length ≤ 100000 then some (.lst (acc.map M.dat)) else none
    | none => none)
  | none => none
section
variable {K : Kx} {E : XK} {kp : Nat → Bool} {F F' F1 F2 H H' H1 H2 : Hp} {as as' as1 as2 bs : List Addr} {σ σ' σ1 : L2.St} {ρ : Env} {te : TE}
theorem Gr.both (g : Gr F H [] F1 H1 []) (as : List Addr) : Gr F H as F1 H1 as := g.weak as
/-- pure steps, whatever lies new beside -/
theorem Gr.pure (g : Gr F H as F1 H1 as1) (h : ∀ a ∈ as, H a = none) : Gr F H [] F1 H1 [] :=
  ⟨g.ff, g.fh, fun a o e _ t => g.hx a o e (fun z => by rw [h a z] at e; cases e) t, (fun a z => by simp at z), fun a e q _ => g.fz a e q fun z => q (h a z), fun a ps e _ => g.th a ps e (fun z => by rw [h a z] at e; cases e), g.tb⟩
theorem en_comp {wi : TI} {gi : Env → Option (List D)} {tg : TG} {st : D → G Unit} {tt : TT} {gt : Env → Option Bool} {ge : Env → Option M} {vs : List Nat} (hi : JIP K wi gi) (ht : JT K (fun i => decide (i ∉ vs)) tg st) (hc : EPT K tt gt) (he : EP K te ge) : EN K (tLc wi tg tt te vs) (gCompP gi st gt ge vs) := fun F H σ ρ as m Q hs so e k => by
  unfold gCompP at e
  split at e
  case h_2 => cases e
  rename_i ds e1
  split at e
  case h_2 => cases e
  rename_i acc e2
  split at e
  case isFalse => cases e
  rename_i hacc
  cases e
  refine hi F H σ ρ as ds _ hs so e1 fun F0 H0 J g0 wk => ?_
  intro L hL
  have so0 := so.grow g0
  obtain ⟨asw, sow, subw⟩ := so0.wipe vs
  have fL : F0 L = none := g0.fh.free hL
  have gL : Gr F0 H0 [] F0 (upd H0 L (.lst [])) [L] := Gr.new g0.fh hL
  refine ⟨fun i n H' => i + n = ds.length ∧ ∃ F' acc' rest ws, Gr F0 H0 [] F' H' [L] ∧ H' L = some (.lst ws) ∧ F' L = none ∧ DVs K F' ws acc' ∧ gLcP st gt ge (wipeE ρ vs) (ds.drop i) = some rest ∧ acc' ++ rest = acc,
    ⟨ds.length, by simp, F0, [], acc, [], gL, upd_same, fL, .nil, e2, rfl⟩, ?_⟩
  rintro i n H1 ⟨em, F1, acc1, rest, ws, g1, hL1, fL1, dv1, e3, eacc⟩
  have g1p : Gr F0 H0 [] F1 H1 [] := g1.pure (by simp)
  obtain ⟨wgo, wst⟩ := wk i F1 H1 g1p
  by_cases hlt : i < ds.length
  · obtain ⟨go, yl⟩ := wgo ds[i] (List.getElem?_eq_getElem hlt)
    refine .inr ⟨go, fun H' => ∃ F' acc' rest ws, Gr F0 H0 [] F' H' [L] ∧ H' L = some (.lst ws) ∧ F' L = none ∧ DVs K F' ws acc' ∧ gLcP st gt ge (wipeE ρ vs) (ds.drop (i + 1)) = some rest ∧ acc' ++ rest = acc, fun H' q => ⟨n - 1, by omega, by omega, q⟩, fun x H2 y => ?_⟩
    obtain ⟨F2, g2, r2⟩ := yl x H2 y
    rw [List.drop_eq_getElem_cons hlt] at e3
    have so2 := (sow.grow g1p).grow g2
    have out : ∀ {F' H' : Hp}, Gr F1 H1 [] F' H' [] → H' L = some (.lst ws) ∧ F' L = none := fun {F' H'} g => ⟨g.hh _ _ hL1 (by simp), g.fz _ fL1 (by rw [hL1]; simp) (by simp)⟩
    -- the turn
    have e3' : (match gTurn st gt ge (wipeE ρ vs) ds[i], gLcP st gt ge (wipeE ρ vs) (ds.drop (i + 1)) with
      | some (some y), some r => some (y :: r)
      | some none, some r => some r
      | _, _ => none) = some rest := e3
    cases et : gTurn st gt ge (wipeE ρ vs) ds[i] with
    | none => rw [et] at e3'; cases e3'
    | some ot =>
      have et0 := et
      unfold gTurn at et
      split at et
      case h_2 => cases et
      rename_i ρ3 es
      refine ht F2 H2 _ _ asw x _ _ _ g2.fh so2 r2 es fun ρ3' eρ σ3 as3 k3 s3 so3 => ?_
      cases eρ
      have hw : L2.wipe σ3 vs = L2.wipe σ vs := by
        apply List.ext_getElem?
        intro j
        by_cases hj : j ∈ vs
        · rw [wipe_in hj, wipe_in hj, k3.2, wipe_length]
        · rw [wipe_out hj, k3.1 j (decide_eq_true hj)]
      refine ⟨hw, ?_⟩
      cases eb : gt ρ3 with
      | none => rw [eb] at et; cases et
      | some b =>
        rw [eb] at et
        refine hc F2 H2 σ3 ρ3 as3 b _ g2.fh so3 eb fun F4 H4 g4 => ?_
        have g24 := g2.trans g4
        cases b with
        | true =>
          simp only at et
          split at et
          case h_2 => cases et
          rename_i yd ey
          cases et
          rw [et0] at e3'
          cases er : gLcP st gt ge (wipeE ρ vs) (ds.drop (i + 1)) with
          | none => rw [er] at e3'; cases e3'
          | some r =>
            rw [er] at e3'
            cases e3'
            show te σ3 H4 _
            refine he F4 H4 σ3 ρ3 as3 _ _ g4.fh (so3.grow g4) ey fun F5 H5 v5 rs5 g5 r5 => ?_
            have g25 := g24.trans g5
            obtain ⟨o1, o2⟩ := out g25
            have l1 : ws.length = acc1.length := dv1.length
            have l2 : acc1.length ≤ acc.length := by rw [← eacc, List.length_append]; omega
            refine ⟨ws, o1, Nat.lt_of_lt_of_le (by omega : ws.length < 100001) (by decide), ?_⟩
            have gm : Gr F5 H5 [L] F5 (upd H5 L (.lst (ws ++ [v5]))) [L] := Gr.mut g5.fh o2 (by simp)
            have gx : Gr F0 H0 [] F5 H5 [L] := g1.trans (g25.weak [L])
            exact ⟨F5, acc1 ++ [yd], r, ws ++ [v5], gx.trans gm, upd_same, o2, (dv1.mono g25.ff).append (DVs.one r5.dat_inv.1), rfl, by rw [← eacc]; simp⟩
        | false =>
          simp only at et
          cases et
          rw [et0] at e3'
          cases er : gLcP st gt ge (wipeE ρ vs) (ds.drop (i + 1)) with
          | none => rw [er] at e3'; cases e3'
          | some r =>
            rw [er] at e3'
            cases e3'
            obtain ⟨o1, o2⟩ := out g24
            exact ⟨F4, acc1, _, ws, g1.trans (g24.weak [L]), o1, o2, dv1.mono g24.ff, rfl, eacc⟩
  · refine .inl ⟨wst (by omega), ?_⟩
    rw [List.drop_of_length_le (by omega)] at e3
    cases e3
    rw [List.append_nil] at eacc
    subst eacc
    exact k F1 H1 (.ref L) [L] (g0.trans g1p) (.lst hL1 fL1 (Owns.dats dv1) (by simp)) fun z hz => by
      rw [List.mem_singleton] at hz
      rw [hz]
      exact g0.back0 (by simp) hL
end

/-! ### defs -/
inductive Rr where
  | ok (r : M) (m' : Option M) | ex (c : Nat) (m' : Option M)
def OwnAt (K : Kx) (F H : Hp) (vs : List V) (j : Option Nat) : Option M → List Addr → Prop
  | some m, as => ∃ i u, j = some i ∧ vs[i]? = some u ∧ Own K F H u m as
  | none, as => as = []
/-- the promise of a def: as f tells; the parameter j is owned, and may have changed -/
def spM (K : Kx) (j : Option Nat) (f : List M → Option Rr) : Sp := fun vs H Q E => ∃ F ms as o, Same F H ∧ TabOk F H ∧ Owns K F H vs ms as ∧ f ms = some o ∧
  (∀ r m', o = .ok r m' → ∀ F' H' as' rs v, Gr F H as F' H' (as' ++ rs) → OwnAt K F' H' vs j m' as' → Own K F' H' v r rs → (∀ z ∈ rs, z ∉ as') → Q v H') ∧
  (∀ c m', o = .ex c m' → ∀ F' H' as', Gr F H as F' H' as' → OwnAt K F' H' vs j m' as' → E (.ref (K.ca c)) none H')
def outM (j : Option Nat) (ρ : Env) : Option M := match j with
  | some i => (match ρ[i]? with
    | some (some m) => some m
    | _ => none)
  | none => none
def start0 (n : Nat) (ms : List M) : Env := ms.map some ++ List.replicate (n - ms.length) none
/-- what a body makes of its arguments -/
def defF (n : Nat) (j : Option Nat) (g : G Fl) : List M → Option Rr := fun ms => match g (start0 n ms) with
  | some (.ok .nx ρ) => some (.ok (.dat .non) (outM j ρ))
  | some (.ok (.rt m) ρ) => some (.ok m (outM j ρ))
  | some (.ex c ρ) => some (.ex c (outM j ρ))
  | _ => none
def kpOf (j : Option Nat) : Nat → Bool := fun i => match j with
  | some k => i == k
  | none => false
section
variable {K : Kx} {E : XK} {kp : Nat → Bool} {F F' F1 F2 H H' H1 H2 : Hp} {as as' as1 as2 bs : List Addr} {σ σ' σ1 : L2.St} {ρ : Env} {te : TE} {ta : TA}
theorem so_none (t : TabOk F H) : ∀ n : Nat, SO K F H (List.replicate n none) (List.replicate n none) []
  | 0 => .nil t
  | n + 1 => .no (so_none t n)
theorem so_start (t : TabOk F H) : ∀ {vs : List V} {ms : List M} {as : List Addr} (n : Nat), Owns K F H vs ms as → SO K F H (vs.map some ++ List.replicate n none) (ms.map some ++ List.replicate n none) as
  | _, _, _, n, .nil => so_none t n
  | _, _, _, n, .cons h hs q => .ow h (so_start t n hs) q
theorem Owns.len : ∀ {vs : List V} {ms : List M} {as : List Addr}, Owns K F H vs ms as → vs.length = ms.length
  | _, _, _, .nil => rfl
  | _, _, _, .cons _ hs _ => congrArg (· + 1) (Owns.len hs)
theorem out_own {j : Option Nat} {vs : List V} {n : Nat} (so : SO K F H σ ρ as) (k : Keeps (kpOf j) (vs.map some ++ List.replicate n none) σ) (hj : ∀ i, j = some i → i < vs.length) : ∃ bs, OwnAt K F H vs j (outM j ρ) bs ∧ ∀ a ∈ bs, a ∈ as := by
  cases j with
  | none => exact ⟨[], rfl, by simp⟩
  | some i =>
    unfold outM
    simp only
    split
    · rename_i m e
      obtain ⟨v, ms, h1, h2, h3, _⟩ := so.at e
      refine ⟨ms, ⟨i, v, rfl, ?_, h2⟩, h3⟩
      have q := k.1 i (by simp [kpOf])
      have hi := hj i rfl
      rw [h1, List.getElem?_append_left (by simpa using hi), List.getElem?_map] at q
      cases e2 : vs[i]? with
      | none => rw [e2] at q; cases q
      | some w =>
        rw [e2] at q
        simp at q
        rw [q]
    · exact ⟨[], rfl, by simp⟩
/-- a body keeps its promise -/
theorem run_def {t : TS} {g : G Fl} {N : List Str} {j : Option Nat} {np : Nat} (h : RN K E (kpOf j) t g) (hj : ∀ i, j = some i → i < np) {vs : List V} {Q : VK} (hn : vs.length = np) (hp : spM K j (defF N.length j g) vs H Q E) :
    t { nx := fun _ H' => Q .non H', rt := Q } (L2.start N vs) H := by
  obtain ⟨F, ms, as, o, hs, htb, ho, e, hok, hex⟩ := hp
  have hl := ho.len
  have hj' : ∀ i, j = some i → i < vs.length := fun i q => by rw [hn]; exact hj i q
  have so := so_start htb (N.length - vs.length) ho
  unfold defF start0 at e
  rw [← hl] at e
  unfold L2.start
  cases eg : g (ms.map some ++ List.replicate (N.length - vs.length) none) with
  | none => rw [eg] at e; cases e
  | some og =>
    rw [eg] at e
    refine h F H _ _ as og _ hs so eg (fun C ρ' e' F' H' σ' as' k' g' s' => ?_) ⟨fun ρ' e' F' H' σ' as' k' g' s' => ?_, fun ρ' e' => ?_, fun ρ' e' => ?_, fun m ρ' e' F' H' σ' as' rs v k' g' s' o' n' => ?_⟩
    · subst e'
      cases e
      obtain ⟨bs, q1, q2⟩ := out_own s' k' hj'
      exact hex C _ rfl F' H' bs (g'.less q2) q1
    · subst e'
      cases e
      obtain ⟨bs, q1, q2⟩ := out_own s' k' hj'
      exact hok _ _ rfl F' H' bs [] .non (g'.less fun a z => (List.mem_append.mp z).elim (q2 a) (by simp)) q1 (.dat .non) (by simp)
    · subst e'
      cases e
    · subst e'
      cases e
    · subst e'
      cases e
      obtain ⟨bs, q1, q2⟩ := out_own s' k' hj'
      exact hok _ _ rfl F' H' bs rs v (g'.less fun a z => (List.mem_append.mp z).elim (fun y => List.mem_append_left _ (q2 a y)) (List.mem_append_right _)) q1 o' fun z hz y => n' z hz (q2 z y)
theorem spM.len {j : Option Nat} {n np : Nat} {g : G Fl} {vs : List V} {Q : VK} {f : List M → Option Rr} (hf : ∀ ms o, f ms = some o → ms.length = np) (h : spM K j f vs H Q E) : vs.length = np := by
  obtain ⟨F, ms, as, o, hs, htb, ho, e, _⟩ := h
  rw [ho.len]
  exact hf ms o e
theorem spM.imp {j : Option Nat} {f f' : List M → Option Rr} (hf : ∀ ms o, f' ms = some o → f ms = some o) {vs : List V} {Q : VK} (h : spM K j f' vs H Q E) : spM K j f vs H Q E := by
  obtain ⟨F, ms, as, o, hs, htb, ho, e, q⟩ := h
  exact ⟨F, ms, as, o, hs, htb, ho, hf _ _ e, q⟩

/-! ### calls -/
def gCall (calm : Bool) (f : List M → Option Rr) (gs : G (List D)) : G M := gBind gs fun ds ρ => match f (ds.map M.dat) with
  | some (.ok r _) => some (.ok r ρ)
  | some (.ex c _) => if calm then none else some (.ex c ρ)
  | none => none
theorem em_call {f : List M → Option Rr} {gs : G (List D)} {calm : Bool} {E' : XK} (hE : calm = true ∨ E' = E) (ha : EXs K E kp ta gs) : EM K E kp (tCall (spM K none f) [] E' ta) (gCall calm f gs) := fun F H σ ρ as o Q hs so e hx k => by
  refine ha.use hs so e hx fun ds ρ1 F1 H1 as1 vs g1 so1 r e1 => ?_
  rw [List.append_nil]
  cases ef : f (ds.map M.dat) with
  | none => simp only [ef] at e1; cases e1
  | some of =>
    simp only [ef] at e1
    refine ⟨F1, ds.map M.dat, [], of, g1.fh, so1.tab, Owns.dats r, ef, fun r' m' eo F' H' as' rs v g' oa ow n => ?_, fun c m' eo F' H' as' g' oa => ?_⟩
    · subst eo
      simp only at e1
      have ha : as' = [] := by
        cases m' with
        | none => exact oa
        | some m => obtain ⟨i, u, q, _⟩ := oa; cases q
      subst ha
      rw [List.nil_append] at g'
      have gp : Gr F1 H1 as1 F' H' (as1 ++ rs) := g'.re g'.ff g'.fh (by simp) (fun a z => (List.mem_append.mp z).imp id fun y => (g'.nw a y).resolve_left (by simp)) (fun a e q _ => g'.fz a e q (by simp))
      have gq : Gr F1 H1 [] F' H' [] := g'.less (by simp)
      refine k r' ρ1 (Option.some.inj e1).symm F' H' as1 rs v (g1.trans gp) (so1.grow gq) ow fun z hz y => ?_
      have := (g'.nw z hz).resolve_left (by simp)
      exact (so1.has z y).1 this
    · subst eo
      simp only at e1
      have ha : as' = [] := by
        cases m' with
        | none => exact oa
        | some m => obtain ⟨i, u, q, _⟩ := oa; cases q
      subst ha
      split at e1
      · cases e1
      · rename_i hc
        have hE' := hE.resolve_left hc
        subst hE'
        exact hx c ρ1 (Option.some.inj e1).symm F' H' σ as1 (.refl _) (g1.trans (g'.weak as1)) (so1.grow g')
/-- arguments, one of them what a slot owns -/
def AS (K : Kx) (E : XK) (kp : Nat → Bool) (ta : TA) (gs : G (List D × Nat × List D)) : Prop :=
  ∀ F H σ ρ as o Q, Same F H → SO K F H σ ρ as → gs ρ = some o → XP K E kp F H σ as o →
    (∀ ds i es ρ', o = .ok (ds, i, es) ρ' → ∀ F' H' as' vs v ws, Gr F H as F' H' as' → SO K F' H' σ ρ' as' → DVs K F' vs ds → σ[i]? = some (some v) → DVs K F' ws es → Q (vs ++ v :: ws) H') → ta σ H Q
def gHere (i : Nat) (gs : G (List D)) : G (List D × Nat × List D) := fun ρ => match ρ[i]? with
  | some (some _) => gBind gs (fun es => gRet ([], i, es)) ρ
  | _ => none
def gNext (ge : G D) (gs : G (List D × Nat × List D)) : G (List D × Nat × List D) := gBind ge fun d => gBind gs fun p => gRet (d :: p.1, p.2.1, p.2.2)
theorem as_here {i : Nat} {gs : G (List D)} (h : EXs K E kp ta gs) : AS K E kp (tCons (tVar i) ta) (gHere i gs) := fun F H σ ρ as o Q hs so e hx k => by
  unfold gHere at e
  split at e
  · rename_i m em
    obtain ⟨v, ms, h1, _⟩ := so.at em
    refine ⟨v, h1, h.use hs so e hx fun es ρ1 F1 H1 as1 ws g1 so1 r e1 => ?_⟩
    obtain rfl := gRet_ok e1
    exact k [] i es ρ1 rfl F1 H1 as1 [] v ws g1 so1 .nil h1 r
  · cases e
theorem as_next {ge : G D} {gs : G (List D × Nat × List D)} (h : EX K E kp te ge) (hr : AS K E kp ta gs) : AS K E kp (tCons te ta) (gNext ge gs) := fun F H σ ρ as o Q hs so e hx k => by
  refine h.use hs so e hx fun d ρ1 F1 H1 as1 w g1 so1 r e1 => ?_
  rcases gBind_cases e1 with ⟨C, ρ', e2, eo⟩ | ⟨p, ρ', e2, eo⟩
  · exact hr F1 H1 σ ρ1 as1 _ _ g1.fh so1 e2 ((hx.step (.refl _) g1).to fun C' ρ'' e' => by rw [eo]; cases e'; rfl) fun ds i es ρ'' e' => by cases e'
  · obtain rfl := gRet_ok eo
    refine hr F1 H1 σ ρ1 as1 _ _ g1.fh so1 e2 (fun C' ρ'' e' => by cases e') fun ds i es ρ'' e' F' H' as' vs v ws g' so' r1 r2 r3 => ?_
    cases e'
    exact k (d :: ds) i es ρ' rfl F' H' as' (w :: vs) v ws (g1.trans g') so' (.cons (r.mono g'.ff) r1) r2 r3
/-- behind a call that was given what stands at a path -/
def gBack (calm : Bool) (ρ : Env) (p : Pth) : Option Rr → Option (Rs M)
  | some (.ok r (some m')) => some (.ok r (putP ρ p m'))
  | some (.ex c (some m')) => if calm then none else some (.ex c (putP ρ p m'))
  | _ => none
theorem owns_mid : ∀ {vs : List V} {ds : List D} {v : V} {m : M} {ms : List Addr} {ws : List V} {es : List D}, DVs K F vs ds → Own K F H v m ms → DVs K F ws es → Owns K F H (vs ++ v :: ws) (ds.map M.dat ++ m :: es.map M.dat) ms
  | _, _, v, m, ms, ws, es, .nil, ho, hw => by
    have := Owns.cons ho (Owns.dats (H := H) hw) (by simp)
    rw [List.append_nil] at this
    exact this
  | _, _, v, m, ms, ws, es, .cons h hs, ho, hw => Owns.cons (as := []) (.dat h) (owns_mid hs ho hw) (by simp)
theorem call_back {f : List M → Option Rr} {calm : Bool} {E' : XK} (hE : calm = true ∨ E' = E) {p : Pth} {m : M} {ms : List Addr} {v : V} {vs ws : List V} {ds es : List D} {o : Rs M} {Q : VK} (hs : Same F H) (h1 : DVs K F vs ds) (hf : Foc K σ ρ as F H p v m ms) (h2 : DVs K F ws es)
    (e : gBack calm ρ p (f (ds.map M.dat ++ m :: es.map M.dat)) = some o) (hx : XP K E kp F H σ as o)
    (k : ∀ m ρ', o = .ok m ρ' → ∀ F' H' as' rs v, Gr F H as F' H' (as' ++ rs) → SO K F' H' σ ρ' as' → Own K F' H' v m rs → (∀ z ∈ rs, z ∉ as') → Q v H') (has : ∀ a ∈ as, H a ≠ none) : spM K (some ds.length) f (vs ++ v :: ws) H Q E' := by
  cases ef : f (ds.map M.dat ++ m :: es.map M.dat) with
  | none => rw [ef] at e; cases e
  | some of =>
    rw [ef] at e
    have hv : ∀ {i : Nat} {u : V}, some ds.length = some i → (vs ++ v :: ws)[i]? = some u → u = v := fun {i u} q1 q2 => by
      cases q1
      rw [← h1.length, List.getElem?_append_right (Nat.le_refl _), Nat.sub_self] at q2
      exact (Option.some.inj q2).symm
    obtain ⟨_, hso, _⟩ := hf.put ms F H m ms (fun _ z _ => z) (.refl hs) hf.own
    refine ⟨F, _, ms, of, hs, hso.tab, owns_mid h1 hf.own h2, ef, fun r' m' eo F' H' as' rs v' g' oa ow n => ?_, fun c m' eo F' H' as' g' oa => ?_⟩
    · subst eo
      cases m' with
      | none => cases e
      | some m' =>
        obtain ⟨i, u, q1, q2, q3⟩ := oa
        have := hv q1 q2
        subst this
        have gl := g'.left
        obtain ⟨as2, w1, w2⟩ := hf.put ms F' H' m' as' (fun _ z _ => z) gl q3
        refine k r' _ (Option.some.inj e).symm F' H' as2 rs v' (g'.lift hf.sub fun a z => ?_) w1 ow fun z hz y => ?_
        · rcases List.mem_append.mp z with z | z
          · exact (w2 a z).imp And.left (List.mem_append_left _)
          · exact .inr (List.mem_append_right _ z)
        · rcases w2 z y with y | y
          · rcases g'.nw z (List.mem_append_right _ hz) with y' | y'
            · exact y.2 y'
            · exact has z y.1 y'
          · exact n z hz y
    · subst eo
      cases m' with
      | none => cases e
      | some m' =>
        simp only [gBack] at e
        split at e
        · cases e
        · rename_i hc
          have hE' := hE.resolve_left hc
          subst hE'
          obtain ⟨i, u, q1, q2, q3⟩ := oa
          have := hv q1 q2
          subst this
          obtain ⟨as2, w1, w2, w3⟩ := hf.put' g' q3
          exact hx c _ (Option.some.inj e).symm F' H' σ as2 (.refl _) w2 w1
end
end Y
/-! Y: calls with an owned argument, methods, instances, what changes lists and fields. -/
namespace Y
open PySem L2
variable [TabC]
section
variable {K : Kx} {E : XK} {kp : Nat → Bool} {F F' F1 F2 H H' H1 H2 : Hp} {as as' as1 as2 bs : List Addr} {σ σ' σ1 : L2.St} {ρ : Env} {te : TE} {ta : TA}
theorem SO.here (so : SO K F H σ ρ as) : ∀ a ∈ as, H a ≠ none := fun a h => (so.has a h).1
def gCallS (calm : Bool) (j : Nat) (f : List M → Option Rr) (gs : G (List D × Nat × List D)) : G M := gBind gs fun p ρ => if p.1.length = j then (match getP ρ (.slot p.2.1) with
  | some m => gBack calm ρ (.slot p.2.1) (f (p.1.map M.dat ++ m :: p.2.2.map M.dat))
  | none => none) else none
theorem em_callS {f : List M → Option Rr} {gs : G (List D × Nat × List D)} {calm : Bool} {j : Nat} {E' : XK} (hE : calm = true ∨ E' = E) (ha : AS K E kp ta gs) : EM K E kp (tCall (spM K (some j) f) [] E' ta) (gCallS calm j f gs) := fun F H σ ρ as o Q hs so e hx k => by
  rcases gBind_cases e with ⟨C, ρ', e2, eo⟩ | ⟨p, ρ', e2, eo⟩
  · exact ha F H σ ρ as _ _ hs so e2 (hx.to fun C' ρ'' e' => by rw [eo]; cases e'; rfl) fun ds i es ρ'' e' => by cases e'
  · obtain ⟨ds, i, es⟩ := p
    refine ha F H σ ρ as _ _ hs so e2 (fun C' ρ'' e' => by cases e') fun ds' i' es' ρ'' e' F1 H1 as1 vs v ws g1 so1 r1 r2 r3 => ?_
    cases e'
    rw [List.append_nil]
    split at eo
    case isFalse => cases eo
    rename_i hj
    simp only at hj
    subst hj
    split at eo
    case h_2 => cases eo
    rename_i m em
    obtain ⟨v', ms, q1, q2⟩ := foc_slot so1 em
    rw [r2] at q1
    cases q1
    exact call_back hE g1.fh r1 q2 r3 eo (hx.step (.refl _) g1) (fun m' ρ2 e' F' H' as' rs v' g' so' ow n => k m' ρ2 e' F' H' as' rs v' (g1.trans g') so' ow n) so1.here
/-- pure arguments, of frozen data -/
def PD (K : Kx) (ta : TA) (gs : Env → Option (List D)) : Prop :=
  ∀ F H σ ρ as ds Q, Same F H → SO K F H σ ρ as → gs ρ = some ds → (∀ F' H' vs, Gr F H [] F' H' [] → DVs K F' vs ds → Q vs H') → ta σ H Q
def pNil : Env → Option (List D) := fun _ => some []
def pCons (g : Env → Option M) (r : Env → Option (List D)) : Env → Option (List D) := fun ρ => match g ρ with
  | some (.dat d) => (match r ρ with
    | some ds => some (d :: ds)
    | none => none)
  | _ => none
theorem pd_nil : PD K tNil pNil := fun F H σ ρ as ds Q hs so e k => by
  cases e
  exact k F H [] (.refl hs) .nil
theorem pd_cons {g : Env → Option M} {r : Env → Option (List D)} (h : EP K te g) (hr : PD K ta r) : PD K (tCons te ta) (pCons g r) := fun F H σ ρ as ds Q hs so e k => by
  unfold pCons at e
  split at e
  · rename_i d e1
    split at e
    · rename_i ds' e2
      cases e
      refine h F H σ ρ as _ _ hs so e1 fun F1 H1 v rs g1 o => ?_
      refine hr F1 H1 σ ρ as _ _ g1.fh (so.grow g1) e2 fun F2 H2 vs g2 r2 => ?_
      exact k F2 H2 (v :: vs) (g1.trans g2) (.cons (o.dat_inv.1.mono g2.ff) r2)
    · cases e
  · cases e
/-- .. one of them what stands at a path -/
def AP (K : Kx) (ta : TA) (gs : Env → Option (List D × Pth × List D)) : Prop :=
  ∀ F H σ ρ as ds p es m Q, Same F H → SO K F H σ ρ as → gs ρ = some (ds, p, es) → getP ρ p = some m → (∀ F' H' vs v ws ms, Gr F H [] F' H' [] → DVs K F' vs ds → Foc K σ ρ as F' H' p v m ms → DVs K F' ws es → Q (vs ++ v :: ws) H') → ta σ H Q
def pHere (pf : Env → Option Pth) (r : Env → Option (List D)) : Env → Option (List D × Pth × List D) := fun ρ => match pf ρ, r ρ with
  | some p, some es => some ([], p, es)
  | _, _ => none
def pNext (g : Env → Option M) (r : Env → Option (List D × Pth × List D)) : Env → Option (List D × Pth × List D) := fun ρ => match g ρ, r ρ with
  | some (.dat d), some (ds, p, es) => some (d :: ds, p, es)
  | _, _ => none
theorem ap_here {pf : Env → Option Pth} {r : Env → Option (List D)} (h : LP K te pf) (hr : PD K ta r) : AP K (tCons te ta) (pHere pf r) := fun F H σ ρ as ds p es m Q hs so e em k => by
  unfold pHere at e
  split at e
  · rename_i p' es' e1 e2
    cases e
    refine h F H σ ρ as p m _ hs so e1 em fun F1 H1 v ms g1 fo => ?_
    refine hr F1 H1 σ ρ as _ _ g1.fh (so.grow g1) e2 fun F2 H2 ws g2 r2 => ?_
    exact k F2 H2 [] v ws ms (g1.trans g2) .nil (fo.grow g2) r2
  · cases e
theorem ap_next {g : Env → Option M} {r : Env → Option (List D × Pth × List D)} (h : EP K te g) (hr : AP K ta r) : AP K (tCons te ta) (pNext g r) := fun F H σ ρ as ds p es m Q hs so e em k => by
  unfold pNext at e
  split at e
  · rename_i d ds' p' es' e1 e2
    cases e
    refine h F H σ ρ as _ _ hs so e1 fun F1 H1 w rs g1 o => ?_
    refine hr F1 H1 σ ρ as _ _ _ m _ g1.fh (so.grow g1) e2 em fun F2 H2 vs v ws ms g2 r1 fo r2 => ?_
    exact k F2 H2 (w :: vs) v ws ms (g1.trans g2) (.cons (o.dat_inv.1.mono g2.ff) r1) fo r2
  · cases e
def gCallP (calm : Bool) (j : Nat) (f : List M → Option Rr) (gs : Env → Option (List D × Pth × List D)) : G M := fun ρ => match gs ρ with
  | some p => if p.1.length = j then (match getP ρ p.2.1 with
    | some m => gBack calm ρ p.2.1 (f (p.1.map M.dat ++ m :: p.2.2.map M.dat))
    | none => none) else none
  | none => none
theorem em_callP {f : List M → Option Rr} {gs : Env → Option (List D × Pth × List D)} {calm : Bool} {j : Nat} {E' : XK} (hE : calm = true ∨ E' = E) (ha : AP K ta gs) : EM K E kp (tCall (spM K (some j) f) [] E' ta) (gCallP calm j f gs) := fun F H σ ρ as o Q hs so e hx k => by
  unfold gCallP at e
  split at e
  case h_2 => cases e
  rename_i p e1
  obtain ⟨ds, p, es⟩ := p
  split at e
  case isFalse => cases e
  rename_i hj
  simp only at hj
  subst hj
  split at e
  case h_2 => cases e
  rename_i m em
  refine ha F H σ ρ as ds p es m _ hs so e1 em fun F1 H1 vs v ws ms g1 r1 fo r2 => ?_
  rw [List.append_nil]
  have g1' := g1.weak as
  exact call_back hE g1.fh r1 fo r2 e (hx.step (.refl _) g1') (fun m' ρ2 e' F' H' as' rs v' g' so' ow n => k m' ρ2 e' F' H' as' rs v' (g1'.trans g') so' ow n) (so.grow g1).here
/-! ### methods -/
theorem fields_none : ∀ {fvs : List (Str × V)} {fs : List (Str × M)} {f : Str}, fvs.map (·.1) = fs.map (·.1) → lookM f fs = none → fvs.lookup f = none
  | [], [], f, _, _ => rfl
  | [], _ :: _, f, h, _ => by simp at h
  | _ :: _, [], f, h, _ => by simp at h
  | (g, u) :: fvs, (g', m) :: fs, f, h, e => by
    simp only [List.map_cons, List.cons.injEq] at h
    obtain ⟨hg, h⟩ := h
    have hg : g = g' := hg
    subst hg
    rw [lookM_cons] at e
    split at e
    · cases e
    · rename_i hf
      rw [List.lookup_cons]
      simp only [beq_eq_false_iff_ne.mpr hf]
      exact fields_none h e
def gMeth (calm : Bool) (C : Nat) (x : Str) (f : List M → Option Rr) (pf : Env → Option Pth) (gs : Env → Option (List D)) : G M := fun ρ => match pf ρ with
  | some p => (match getP ρ p with
    | some (.obj C' fs) => if C' = C then (match lookM x fs with
      | none => (match gs ρ with
        | some es => gBack calm ρ p (f (.obj C' fs :: es.map M.dat))
        | none => none)
      | some _ => none) else none
    | _ => none)
  | none => none
theorem em_meth {f : List M → Option Rr} {C : Nat} {x : Str} {pf : Env → Option Pth} {gs : Env → Option (List D)} {calm : Bool} {E' : XK} (hE : calm = true ∨ E' = E) (hp : LP K te pf) (ha : PD K ta gs) :
    EM K E kp (tMeth (K.ca C) x (spM K (some 0) f) [] E' te ta) (gMeth calm C x f pf gs) := fun F H σ ρ as o Q hs so e hx k => by
  unfold gMeth at e
  split at e
  case h_2 => cases e
  rename_i p e1
  split at e
  case h_2 => cases e
  rename_i C' fs em
  split at e
  case isFalse => cases e
  rename_i hC
  subst hC
  split at e
  case h_2 => cases e
  rename_i en
  split at e
  case h_2 => cases e
  rename_i es e2
  refine hp F H σ ρ as p _ _ hs so e1 em fun F1 H1 v ms g1 fo => ?_
  have ho := fo.own
  cases ho with
  | obj ha' hd fa fd enames hs' n1 n2 n3 =>
    rename_i a dx fvs bs
    refine ⟨a, dx, fvs, rfl, ha', fields_none enames en, ?_⟩
    refine ha F1 H1 σ ρ as es _ g1.fh (so.grow g1) e2 fun F2 H2 ws g2 r2 => ?_
    rw [List.append_nil]
    have g12 := (g1.trans g2).weak as
    exact call_back (vs := []) (ds := []) hE g2.fh .nil (fo.grow g2) r2 e (hx.step (.refl _) g12) (fun m' ρ2 e' F' H' as' rs v' g' so' ow n => k m' ρ2 e' F' H' as' rs v' (g12.trans g') so' ow n) (so.grow (g1.trans g2)).here
def gMethS (calm : Bool) (C : Nat) (x : Str) (f : List M → Option Rr) (i : Nat) (gs : G (List D)) : G M := fun ρ => match getP ρ (.slot i) with
  | some (.obj C' fs0) => if C' = C then (match lookM x fs0 with
    | none => gBind gs (fun es ρ1 => match getP ρ1 (.slot i) with
      | some m => gBack calm ρ1 (.slot i) (f (m :: es.map M.dat))
      | none => none) ρ
    | some _ => none) else none
  | _ => none
theorem em_methS {f : List M → Option Rr} {C : Nat} {x : Str} {i : Nat} {gs : G (List D)} {calm : Bool} {E' : XK} (hE : calm = true ∨ E' = E) (ha : EXs K E kp ta gs) :
    EM K E kp (tMeth (K.ca C) x (spM K (some 0) f) [] E' (tVar i) ta) (gMethS calm C x f i gs) := fun F H σ ρ as o Q hs so e hx k => by
  unfold gMethS at e
  split at e
  case h_2 => cases e
  rename_i C' fs em
  split at e
  case isFalse => cases e
  rename_i hC
  subst hC
  split at e
  case h_2 => cases e
  rename_i en
  obtain ⟨v, ms, h1, fo⟩ := foc_slot so em
  refine ⟨v, h1, ?_⟩
  have ho := fo.own
  cases ho with
  | obj ha' hd fa fd enames hs' n1 n2 n3 =>
    rename_i a dx fvs bs
    refine ⟨a, dx, fvs, rfl, ha', fields_none enames en, ?_⟩
    refine ha.use hs so e hx fun es ρ1 F1 H1 as1 ws g1 so1 r1 e1 => ?_
    rw [List.append_nil]
    split at e1
    case h_2 => cases e1
    rename_i m em1
    obtain ⟨v', ms', q1, q2⟩ := foc_slot so1 em1
    rw [h1] at q1
    cases q1
    exact call_back (vs := []) (ds := []) hE g1.fh .nil q2 r1 e1 (hx.step (.refl _) g1) (fun m' ρ2 e' F' H' as' rs v' g' so' ow n => k m' ρ2 e' F' H' as' rs v' (g1.trans g') so' ow n) so1.here
/-! ### new instances -/
def gMake (calm : Bool) (c : Nat) (f : List M → Option Rr) (gs : G (List D)) : G M := gBind gs fun ds ρ => match f (.obj c [] :: ds.map M.dat) with
  | some (.ok (.dat .non) (some m)) => some (.ok m ρ)
  | some (.ex x _) => if calm then none else some (.ex x ρ)
  | _ => none
theorem em_make {f : List M → Option Rr} {gs : G (List D)} {calm : Bool} {c : Nat} {E' : XK} (hE : calm = true ∨ E' = E) (ha : EXs K E kp ta gs) : EM K E kp (tMake (K.ca c) (spM K (some 0) f) [] E' ta) (gMake calm c f gs) := fun F H σ ρ as o Q hs so e hx k => by
  refine ha.use hs so e hx fun ds ρ1 F1 H1 as1 vs g1 so1 r e1 => ?_
  intro x dx hx' hdx hne
  rw [List.append_nil]
  have fx : F1 x = none := g1.fh.free hx'
  have fdx : F1 dx = none := g1.fh.free hdx
  have ga : Gr F1 H1 [] F1 (upd H1 dx (.own x)) [dx] := Gr.new g1.fh hdx
  have hx2 : (upd H1 dx (.own x)) x = none := by rw [upd_ne (fun z => hne z.symm)]; exact hx'
  have gb : Gr F1 (upd H1 dx (.own x)) [] F1 (upd (upd H1 dx (.own x)) x (.ins (K.ca c) dx [])) [x] := Gr.new ga.fh hx2
  have gab : Gr F1 H1 [] F1 (upd (upd H1 dx (.own x)) x (.ins (K.ca c) dx [])) [] := (ga.less (by simp)).trans (gb.less (by simp))
  have own0 : Own K F1 (upd (upd H1 dx (.own x)) x (.ins (K.ca c) dx [])) (.ref x) (.obj c []) [x, dx] := .obj upd_same (by rw [upd_ne hne]; exact upd_same) fx fdx rfl .nil (by simp) (by simp) fun z => hne z.symm
  cases ef : f (.obj c [] :: ds.map M.dat) with
  | none => simp only [ef] at e1; cases e1
  | some of =>
    simp only [ef] at e1
    have ows : Owns K F1 (upd (upd H1 dx (.own x)) x (.ins (K.ca c) dx [])) (.ref x :: vs) (.obj c [] :: ds.map M.dat) ([x, dx] ++ []) := .cons own0 (Owns.dats r) (by simp)
    have gx : ∀ {F' H' : Hp} {as' : List Addr}, Gr F1 (upd (upd H1 dx (.own x)) x (.ins (K.ca c) dx [])) ([x, dx] ++ []) F' H' as' → Gr F1 H1 [] F' H' as' := fun {F' H' as'} g' => by
      have gn : Gr F1 H1 [] F1 (upd (upd H1 dx (.own x)) x (.ins (K.ca c) dx [])) ([x, dx] ++ []) := gab.re gab.ff gab.fh (fun _ z => z) (fun a z => by
        rcases List.mem_cons.mp (by simpa using z : a ∈ [x, dx]) with z | z
        · exact .inr (by rw [z]; exact hx')
        · exact .inr (by rw [List.mem_singleton.mp z]; exact hdx)) gab.fz
      exact gn.trans g'
    refine ⟨F1, _, _, of, gab.fh, (gab.tb so1.tab), ows, ef, fun r' m' eo F' H' as' rs v' g' oa ow n => ?_, fun c' m' eo F' H' as' g' oa => ?_⟩
    · subst eo
      try simp only at e1
      split at e1
      · rename_i m2 e2
        cases e2
        obtain ⟨hv, hrs⟩ := ow.dat_inv
        subst hrs
        obtain ⟨i, u, q1, q2, q3⟩ := oa
        cases q1
        cases q2
        refine ⟨hv.non_inv, ?_⟩
        have g3 := gx g'
        rw [List.append_nil] at g3
        have g3' : Gr F1 H1 [] F' H' [] := g3.less (by simp)
        refine k m2 ρ1 (Option.some.inj e1).symm F' H' as1 as' (.ref x) (g1.trans (g3.re g3.ff g3.fh (by simp) (fun a z => (List.mem_append.mp z).imp id fun y => (g3.nw a y).resolve_left (by simp)) (fun a e q _ => g3.fz a e q (by simp)))) (so1.grow g3') q3 fun z hz y => ?_
        exact (so1.has z y).1 ((g3.nw z hz).resolve_left (by simp))
      · rename_i x e2
        cases e2
      · cases e1
    · subst eo
      try simp only at e1
      split at e1
      · cases e1
      · rename_i hc
        have hE' := hE.resolve_left hc
        subst hE'
        have g3 : Gr F1 H1 [] F' H' [] := (gx g').less (by simp)
        exact hx _ ρ1 (Option.some.inj e1).symm F' H' σ as1 (.refl _) (g1.trans (g3.weak as1)) (so1.grow g3)

/-! ### what changes -/
theorem Owns.snoc : ∀ {vs : List V} {ms : List M} {as : List Addr} {v : V} {m : M} {bs : List Addr}, Owns K F H vs ms as → Own K F H v m bs → (∀ a ∈ as, a ∉ bs) → ∃ cs, Owns K F H (vs ++ [v]) (ms ++ [m]) cs ∧ ∀ a, a ∈ cs → a ∈ as ∨ a ∈ bs
  | _, _, _, v, m, bs, .nil, h, _ => ⟨bs ++ [], .cons h .nil (by simp), fun a z => .inr (by simpa using z)⟩
  | _, _, _, v, m, bs, .cons (as := xs) h hs n, h2, q => by
    obtain ⟨cs, q1, q2⟩ := Owns.snoc hs h2 fun a z => q a (List.mem_append_right _ z)
    refine ⟨xs ++ cs, .cons h q1 fun a z y => ?_, fun a z => ?_⟩
    · rcases q2 a y with y | y
      · exact n a z y
      · exact q a (List.mem_append_left _ z) y
    · rcases List.mem_append.mp z with z | z
      · exact .inl (List.mem_append_left _ z)
      · exact (q2 a z).imp (List.mem_append_right _) id
theorem Owns.unsnoc : ∀ {vs : List V} {ms : List M} {as : List Addr} {m : M}, Owns K F H vs (ms ++ [m]) as → ∃ ws v xs bs, vs = ws ++ [v] ∧ Owns K F H ws ms xs ∧ Own K F H v m bs ∧ (∀ a ∈ bs, a ∈ as ∧ a ∉ xs) ∧ ∀ a ∈ xs, a ∈ as
  | _, [], _, m, .cons (v := v) (as := as) (bs := bs) h hs n => by
    cases hs with
    | nil => exact ⟨[], v, [], as, rfl, .nil, h, fun a z => ⟨List.mem_append_left _ z, by simp⟩, by simp⟩
  | _, m0 :: ms, _, m, .cons (v := v) (as := as0) h hs n => by
    obtain ⟨ws, v', xs, bs, rfl, q1, q2, q3, q4⟩ := Owns.unsnoc (ms := ms) (m := m) hs
    refine ⟨v :: ws, v', as0 ++ xs, bs, rfl, .cons h q1 (fun a z y => n a z (q4 a y)), q2, fun a z => ⟨List.mem_append_right _ (q3 a z).1, fun y => ?_⟩, fun a z => ?_⟩
    · rcases List.mem_append.mp y with y | y
      · exact n a y (q3 a z).1
      · exact (q3 a z).2 y
    · rcases List.mem_append.mp z with z | z
      · exact List.mem_append_left _ z
      · exact List.mem_append_right _ (q4 a z)
theorem ty_list {a : Addr} {vs : List V} (h : H a = some (.lst vs)) : tyV K.K "list" (.ref a) H := .inl ⟨rfl, vs, .of h⟩
/-- p.append(e), e pure data -/
def gApp (pf : Env → Option Pth) (ge : Env → Option M) : G Fl := fun ρ => match pf ρ with
  | some p => (match getP ρ p, ge ρ with
    | some (.lst ms), some (.dat d) => if ms.length < 100000 then some (.ok .nx (putP ρ p (.lst (ms ++ [.dat d])))) else none
    | _, _ => none)
  | none => none
theorem app_foc {p : Pth} {v w : V} {ms : List M} {d : D} {bs : List Addr} (hs : Same F H) (fo : Foc K σ ρ as F H p v (.lst ms) bs) (r : DV K F w d) (hl : ms.length < 100000) {Q : VK} (k : ∀ H' as', Gr F H as F H' as' → SO K F H' σ (putP ρ p (.lst (ms ++ [.dat d]))) as' → Q .non H') : rAppend v [w] H Q := by
  have ho := fo.own
  cases ho with
  | lst ha fa hv n =>
    rename_i a vs xs
    refine ⟨a, vs, w, rfl, rfl, ha, Nat.lt_of_lt_of_le (by rw [hv.len]; omega : vs.length < 100000) (by decide), ?_⟩
    have gm : Gr F H (a :: xs) F (upd H a (.lst (vs ++ [w]))) (a :: xs) := Gr.mut hs fa List.mem_cons_self
    have gm1 : Gr F H [a] F (upd H a (.lst (vs ++ [w]))) [a] := Gr.mut hs fa (by simp)
    have hv' : Owns K F (upd H a (.lst (vs ++ [w]))) vs ms xs := hv.frame gm1 fun b hb z => n (by rw [List.mem_singleton.mp z] at hb; exact hb)
    obtain ⟨cs, q1, q2⟩ := hv'.snoc (Own.dat r) (by simp)
    have own' : Own K F (upd H a (.lst (vs ++ [w]))) (.ref a) (.lst (ms ++ [.dat d])) (a :: cs) := .lst upd_same fa q1 fun z => (q2 a z).elim n (by simp)
    obtain ⟨as', w1, w2, _⟩ := fo.put' (gm.less fun b z => by
      rcases List.mem_cons.mp z with z | z
      · rw [z]; exact List.mem_cons_self
      · exact List.mem_cons_of_mem _ ((q2 b z).elim id (by simp))) own'
    exact k _ as' w2 w1
theorem rn_app {tl : TE} {pf : Env → Option Pth} {ge : Env → Option M} (hp : LP K tl pf) (he : EP K te ge) : RN K E kp (tDrop (tBM K.K "list" rAppend tl (tCons te tNil))) (gApp pf ge) := fun F H σ ρ as o D hs so e hx hpost => by
  unfold gApp at e
  split at e
  case h_2 => cases e
  rename_i p e1
  split at e
  case h_2 => cases e
  rename_i ms d em ed
  split at e
  case isFalse => cases e
  rename_i hl
  refine hp F H σ ρ as p _ _ hs so e1 em fun F1 H1 v bs g1 fo => ?_
  refine ⟨?_, ?_⟩
  · have ho := fo.own
    cases ho with
    | lst ha fa hv n => exact ty_list ha
  · refine he F1 H1 σ ρ as _ _ g1.fh (so.grow g1) ed fun F2 H2 w rs g2 r => ?_
    show rAppend v [w] H2 (fun _ H1 => D.nx σ H1)
    refine app_foc g2.fh (fo.grow g2) r.dat_inv.1 hl fun H3 as3 g3 so3 => ?_
    exact hpost.nx _ (Option.some.inj e).symm F2 H3 σ as3 (.refl _) (((g1.trans g2).weak as).trans g3) so3
/-- x.append(e), x a slot -/
def gAppS (i : Nat) (ge : G D) : G Fl := fun ρ => match getP ρ (.slot i) with
  | some (.lst _) => gBind ge (fun d ρ1 => match getP ρ1 (.slot i) with
    | some (.lst ms) => if ms.length < 100000 then some (.ok .nx (ρ1.set i (some (.lst (ms ++ [.dat d]))))) else none
    | _ => none) ρ
  | _ => none
theorem rn_appS {i : Nat} {ge : G D} (he : EX K E kp te ge) : RN K E kp (tDrop (tBM K.K "list" rAppend (tVar i) (tCons te tNil))) (gAppS i ge) := fun F H σ ρ as o D hs so e hx hpost => by
  unfold gAppS at e
  split at e
  case h_2 => cases e
  rename_i ms0 em
  obtain ⟨v, bs, h1, fo⟩ := foc_slot so em
  refine ⟨v, h1, ?_, ?_⟩
  · have ho := fo.own
    cases ho with
    | lst ha fa hv n => exact ty_list ha
  · refine he.use hs so e hx fun d ρ1 F1 H1 as1 w g1 so1 r e1 => ?_
    split at e1
    case h_2 => cases e1
    rename_i ms em1
    split at e1
    case isFalse => cases e1
    rename_i hl
    obtain ⟨v', bs', q1, q2⟩ := foc_slot so1 em1
    rw [h1] at q1
    cases q1
    show rAppend v [w] H1 (fun _ H1 => D.nx σ H1)
    refine app_foc g1.fh q2 r hl fun H3 as3 g3 so3 => ?_
    exact hpost.nx _ (Option.some.inj e1).symm F1 H3 σ as3 (.refl _) (g1.trans g3) so3
/-- p.pop() -/
def gPop (pf : Env → Option Pth) : G M := fun ρ => match pf ρ with
  | some p => (match getP ρ p with
    | some (.lst ms) => (match ms.getLast? with
      | some m => some (.ok m (putP ρ p (.lst ms.dropLast)))
      | none => none)
    | _ => none)
  | none => none
theorem em_pop {pf : Env → Option Pth} (hp : LP K te pf) : EM K E kp (tBM0 K.K "list" rPop te) (gPop pf) := fun F H σ ρ as o Q hs so e hx k => by
  unfold gPop at e
  split at e
  case h_2 => cases e
  rename_i p e1
  split at e
  case h_2 => cases e
  rename_i ms em
  split at e
  case h_2 => cases e
  rename_i m el
  refine hp F H σ ρ as p _ _ hs so e1 em fun F1 H1 v bs g1 fo => ?_
  have ho := fo.own
  cases ho with
  | lst ha fa hv n =>
    rename_i a vs xs
    refine ⟨ty_list ha, ?_⟩
    have hms : ms = ms.dropLast ++ [m] := by
      have hne : ms ≠ [] := fun z => by rw [z] at el; cases el
      rw [List.getLast?_eq_getLast hne] at el
      cases el
      exact (List.dropLast_concat_getLast hne).symm
    rw [hms] at hv
    obtain ⟨ws, u, ys, cs, rfl, q1, q2, q3, q4⟩ := hv.unsnoc
    refine ⟨a, _, u, rfl, rfl, ha, by simp, ?_⟩
    rw [List.dropLast_concat]
    have gm1 : Gr F1 H1 [a] F1 (upd H1 a (.lst ws)) [a] := Gr.mut g1.fh fa (by simp)
    have na : ∀ b, b ∈ xs → b ∉ [a] := fun b hb z => n (by rw [List.mem_singleton.mp z] at hb; exact hb)
    have own' : Own K F1 (upd H1 a (.lst ws)) (.ref a) (.lst ms.dropLast) (a :: ys) := .lst upd_same fa (q1.frame gm1 fun b hb => na b (q4 b hb)) fun z => n (q4 a z)
    have gm : Gr F1 H1 (a :: xs) F1 (upd H1 a (.lst ws)) (a :: xs) := Gr.mut g1.fh fa List.mem_cons_self
    obtain ⟨as', w1, w2⟩ := fo.put (a :: xs) _ _ _ _ (fun _ z _ => z) (gm.less (as2 := a :: ys) fun b z => by
      rcases List.mem_cons.mp z with z | z
      · rw [z]; exact List.mem_cons_self
      · exact List.mem_cons_of_mem _ (q4 b z)) own'
    have csin : ∀ b ∈ cs, b ∈ as := fun b hb => fo.sub b (List.mem_cons_of_mem _ (q3 b hb).1)
    refine k m _ (Option.some.inj e).symm F1 _ as' cs u ((g1.weak as).trans (gm.lift (as1 := as' ++ cs) fo.sub fun b z => ?_)) w1 (q2.frame gm1 fun b hb => na b (q3 b hb).1) fun z hz y => ?_
    · rcases List.mem_append.mp z with z | z
      · rcases w2 b z with y | y
        · exact .inl y.1
        · exact .inl (fo.sub b (by
            rcases List.mem_cons.mp y with y | y
            · rw [y]; exact List.mem_cons_self
            · exact List.mem_cons_of_mem _ (q4 b y)))
      · exact .inl (csin b z)
    · rcases w2 z y with y | y
      · exact y.2 (List.mem_cons_of_mem _ (q3 z hz).1)
      · rcases List.mem_cons.mp y with y | y
        · exact n (y ▸ (q3 z hz).1)
        · exact (q3 z hz).2 y
/-- p.clear() -/
def gClear (pf : Env → Option Pth) : G Fl := fun ρ => match pf ρ with
  | some p => (match getP ρ p with
    | some (.lst _) => some (.ok .nx (putP ρ p (.lst [])))
    | _ => none)
  | none => none
theorem rn_clear {pf : Env → Option Pth} (hp : LP K te pf) : RN K E kp (tDrop (tBM0 K.K "list" rClear te)) (gClear pf) := fun F H σ ρ as o D hs so e hx hpost => by
  unfold gClear at e
  split at e
  case h_2 => cases e
  rename_i p e1
  split at e
  case h_2 => cases e
  rename_i ms em
  refine hp F H σ ρ as p _ _ hs so e1 em fun F1 H1 v bs g1 fo => ?_
  have ho := fo.own
  cases ho with
  | lst ha fa hv n =>
    rename_i a vs xs
    refine ⟨ty_list ha, a, vs, rfl, rfl, ha, ?_⟩
    have gm : Gr F1 H1 (a :: xs) F1 (upd H1 a (.lst [])) (a :: xs) := Gr.mut g1.fh fa List.mem_cons_self
    have own' : Own K F1 (upd H1 a (.lst [])) (.ref a) (.lst []) [a] := .lst upd_same fa .nil (by simp)
    obtain ⟨as', w1, w2, _⟩ := fo.put' (gm.less (as2 := [a]) fun b z => by rw [List.mem_singleton.mp z]; exact List.mem_cons_self) own'
    exact hpost.nx _ (Option.some.inj e).symm F1 _ σ as' (.refl _) ((g1.weak as).trans w2) w1
/-- p[i] = e -/
def ixL (n : Nat) (i : Int) : Option Nat := ixN n i
def gSetI (ge : G D) (pf : Env → Option Pth) (gi : Env → Option M) : G Fl := gBind ge fun d ρ => match pf ρ with
  | some p => (match getP ρ p, gi ρ with
    | some (.lst ms), some (.dat (.int i)) => (match ixN ms.length i with
      | some j => some (.ok .nx (putP ρ p (.lst (ms.set j (.dat d)))))
      | none => none)
    | _, _ => none)
  | none => none
theorem Owns.setDat : ∀ {vs : List V} {ms : List M} {as : List Addr} {v : V} {d : D} (j : Nat), Owns K F H vs ms as → DV K F v d → ∃ cs, Owns K F H (vs.set j v) (ms.set j (.dat d)) cs ∧ ∀ a, a ∈ cs → a ∈ as
  | _, _, _, v, d, j, .nil, _ => ⟨[], .nil, fun _ z => z⟩
  | _, _, _, v, d, 0, .cons h hs n, r => ⟨_, .cons (.dat r) hs (by simp), fun a z => List.mem_append_right _ z⟩
  | _, _, _, v, d, j + 1, .cons (as := xs) h hs n, r => by
    obtain ⟨cs, q1, q2⟩ := Owns.setDat j hs r
    refine ⟨xs ++ cs, .cons h q1 fun a z y => n a z (q2 a y), fun a z => ?_⟩
    rcases List.mem_append.mp z with z | z
    · exact List.mem_append_left _ z
    · exact List.mem_append_right _ (q2 a z)
theorem rn_setI {tl ti : TE} {ge : G D} {pf : Env → Option Pth} {gi : Env → Option M} (he : EX K E kp te ge) (hp : LP K tl pf) (hi : EP K ti gi) : RN K E kp (tAsg te (gSub tl ti rSetL)) (gSetI ge pf gi) := fun F H σ ρ as o D hs so e hx hpost => by
  refine he.use hs so e hx fun d ρ1 F1 H1 as1 w g1 so1 r e1 => ?_
  split at e1
  case h_2 => cases e1
  rename_i p e2
  split at e1
  case h_2 => cases e1
  rename_i ms i em ei
  split at e1
  case h_2 => cases e1
  rename_i j ej
  refine hp F1 H1 σ ρ1 as1 p _ _ g1.fh so1 e2 em fun F2 H2 v bs g2 fo => ?_
  refine hi F2 H2 σ ρ1 as1 _ _ g2.fh (so1.grow g2) ei fun F3 H3 iv rs g3 ri => ?_
  have fo3 := fo.grow g3
  have ho := fo3.own
  cases ho with
  | lst ha fa hv n =>
    rename_i a vs xs
    refine ⟨a, vs, i, j, rfl, ri.dat_inv.1.int_inv, ha, by rw [hv.len]; exact ej, ?_⟩
    have gm : Gr F3 H3 (a :: xs) F3 (upd H3 a (.lst (vs.set j w))) (a :: xs) := Gr.mut g3.fh fa List.mem_cons_self
    have gm1 : Gr F3 H3 [a] F3 (upd H3 a (.lst (vs.set j w))) [a] := Gr.mut g3.fh fa (by simp)
    obtain ⟨cs, q1, q2⟩ := (hv.frame gm1 fun b hb z => n (by rw [List.mem_singleton.mp z] at hb; exact hb)).setDat j ((r.mono g2.ff).mono g3.ff)
    have own' : Own K F3 (upd H3 a (.lst (vs.set j w))) (.ref a) (.lst (ms.set j (.dat d))) (a :: cs) := .lst upd_same fa q1 fun z => n (q2 a z)
    obtain ⟨as', w1, w2, _⟩ := fo3.put' (gm.less (as2 := a :: cs) fun b z => by
      rcases List.mem_cons.mp z with z | z
      · rw [z]; exact List.mem_cons_self
      · exact List.mem_cons_of_mem _ (q2 b z)) own'
    exact hpost.nx _ (Option.some.inj e1).symm F3 _ σ as' (.refl _) (g1.trans (((g2.trans g3).weak as1).trans w2)) w1
end
end Y
/-! Y: the parts of expressions: constants, operators, displays, subscripts, tests, what is walked. -/
namespace Y
open PySem L2
variable [TabC]
section
variable {K : Kx} {E : XK} {kp : Nat → Bool} {F F' F1 F2 H H' H1 H2 : Hp} {as as' as1 as2 bs : List Addr} {σ σ' σ1 : L2.St} {ρ : Env} {te tb : TE} {ta : TA} {ga gb : Env → Option M} {xa xb : G D}
/-- constants -/
def cM (m : M) : Env → Option M := fun _ => some m
theorem en_c {v : V} {d : D} (h : ∀ F, DV K F v d) : EN K (tC v) (cM (.dat d)) := fun F H σ ρ as m Q hs so e k => by
  cases e
  exact k F H v [] (.refl hs) (.dat (h F)) (by simp)
theorem en_int (i : Int) : EN K (tC (.int i)) (cM (.dat (.int i))) := en_c fun _ => .int i
theorem en_bl (b : Bool) : EN K (tC (.bl b)) (cM (.dat (.bl b))) := en_c fun _ => .bl b
theorem en_non : EN K (tC .non) (cM (.dat .non)) := en_c fun _ => .non
def sc (x : Str) : List Nat := x.cps.toList
theorem en_str (x : Str) : EN K (tC (.str x)) (cM (.dat (.str (sc x)))) := en_c fun _ => .str x
theorem EN.ex {g : Env → Option M} (h : EN K te g) : EX K E kp te (gOf fun ρ => (g ρ).bind asDat) := h.ep.ex
/-- fresh or not, it is told as data -/
def gView (g : Env → Option M) : G D := gOf fun ρ => (g ρ).bind M.view
theorem EN.exv {g : Env → Option M} (h : EN K te g) : EX K E kp te (gView g) := fun F H σ ρ as o Q hs so e hx k => by
  obtain ⟨d, e1, rfl⟩ := gOf_ok e
  cases e2 : g ρ with
  | none => rw [e2] at e1; cases e1
  | some m =>
    rw [e2] at e1
    refine h F H σ ρ as m Q hs so e2 fun F1 H1 v rs g r n => ?_
    have d1 := r.freeze g.fh e1 (bs := rs) fun _ z => z
    have g2 : Gr F H [] (frz F1 H1 rs) H1 [] := g.re (g.ff.trans (frz_same g.fh)) (frz_le g.fh) (fun _ z => z) (fun a z => by simp at z) (fun a e q _ => by
      rw [frz_out fun z => q (n a z)]
      exact g.fz a e q (by simp)) frz_tab
    exact k d ρ rfl _ H1 as v (g2.weak as) (so.grow g2) d1
/-! ### operators -/
def n2 (f : M → M → Option M) (ga gb : Env → Option M) : Env → Option M := fun ρ => match ga ρ, gb ρ with
  | some a, some b => f a b
  | _, _ => none
theorem en_op {r : R2} {f : M → M → Option M} (p : P2 K r f) (ha : EP K te ga) (hb : EP K tb gb) : EN K (tOp r te tb) (n2 f ga gb) := fun F H σ ρ as m Q hs so e k => by
  unfold n2 at e
  split at e
  · rename_i a b e1 e2
    refine ha F H σ ρ as a _ hs so e1 fun F1 H1 v rs g1 o1 => ?_
    refine hb F1 H1 σ ρ as b _ g1.fh (so.grow g1) e2 fun F2 H2 w ss g2 o2 => ?_
    refine p F2 H2 v w a b rs ss m Q g2.fh (o1.grow g2) o2 e fun F3 H3 u ts g3 o3 n3 => ?_
    refine k F3 H3 u ts ((g1.trans g2).trans g3) o3 fun z hz => ?_
    exact (g1.trans g2).back0 (by simp) (n3 z hz)
  · cases e
def x2 (f : M → M → Option M) (xa xb : G D) : G M := gBind xa fun a => gBind xb fun b => gOpt (f (.dat a) (.dat b))
/-- what a pure operation gives, behind effects -/
theorem em_fin {t : M} {o : Rs M} {m : M} {Q : V → Hp → Prop} (so : SO K F1 H1 σ ρ as1) (g1 : Gr F H as F1 H1 as1) (eo : o = .ok m ρ)
    (k : ∀ m ρ', o = .ok m ρ' → ∀ F' H' as' rs v, Gr F H as F' H' (as' ++ rs) → SO K F' H' σ ρ' as' → Own K F' H' v m rs → (∀ z ∈ rs, z ∉ as') → Q v H') :
    ∀ F' H' u rs, Gr F1 H1 [] F' H' [] → Own K F' H' u m rs → (∀ z ∈ rs, H1 z = none) → Q u H' := fun F' H' u rs g o n => by
  refine k m ρ eo F' H' as1 rs u (g1.trans (g.re g.ff g.fh (by simp) (fun a z => (List.mem_append.mp z).imp id (n a)) (fun a e q _ => g.fz a e q (by simp)))) (so.grow g) o fun z hz y => (so.has z y).1 (n z hz)
theorem em_op {r : R2} {f : M → M → Option M} (p : P2 K r f) (ha : EX K E kp te xa) (hb : EX K E kp tb xb) : EM K E kp (tOp r te tb) (x2 f xa xb) := fun F H σ ρ as o Q hs so e hx k => by
  refine ha.use hs so e hx fun a ρ1 F1 H1 as1 v g1 so1 r1 e1 => ?_
  refine hb.use g1.fh so1 e1 (hx.step (.refl _) g1) fun b ρ2 F2 H2 as2 w g2 so2 r2 e2 => ?_
  obtain ⟨m, e3, eo⟩ := gOpt_ok e2
  exact p F2 H2 v w _ _ [] [] m Q g2.fh (.dat (r1.mono g2.ff)) (.dat r2) e3 (em_fin (t := m) so2 (g1.trans g2) eo k)
def n1 (f : M → Option M) (ga : Env → Option M) : Env → Option M := fun ρ => match ga ρ with
  | some a => f a
  | none => none
def x1 (f : M → Option M) (xa : G D) : G M := gBind xa fun a => gOpt (f (.dat a))
theorem back_none (g : Gr F H [] F1 H1 []) {z : Addr} (h : H1 z = none) : H z = none := by
  exact g.back0 (by simp) h
theorem en_un {r : V → Hp → VK → Prop} {f : M → Option M} (p : P1 K r f) (ha : EP K te ga) : EN K (tUn r te) (n1 f ga) := fun F H σ ρ as m Q hs so e k => by
  unfold n1 at e
  split at e
  · rename_i a e1
    refine ha F H σ ρ as a _ hs so e1 fun F1 H1 v rs g1 o1 => ?_
    exact p F1 H1 v a rs m Q g1.fh o1 e fun F3 H3 u ts g3 o3 n3 => k F3 H3 u ts (g1.trans g3) o3 fun z hz => back_none g1 (n3 z hz)
  · cases e
theorem em_un {r : V → Hp → VK → Prop} {f : M → Option M} (p : P1 K r f) (ha : EX K E kp te xa) : EM K E kp (tUn r te) (x1 f xa) := fun F H σ ρ as o Q hs so e hx k => by
  refine ha.use hs so e hx fun a ρ1 F1 H1 as1 v g1 so1 r1 e1 => ?_
  obtain ⟨m, e3, eo⟩ := gOpt_ok e1
  exact p F1 H1 v _ [] m Q g1.fh (.dat r1) e3 (em_fin (t := m) so1 g1 eo k)
/-! ### arguments -/
def psNil : Env → Option (List M) := fun _ => some []
def psCons (g : Env → Option M) (r : Env → Option (List M)) : Env → Option (List M) := fun ρ => match g ρ, r ρ with
  | some m, some ms => some (m :: ms)
  | _, _ => none
theorem eps_nil : EPs K tNil psNil := fun F H σ ρ as m Q hs so e k => by
  cases e
  exact k F H [] (.refl hs) .nil
theorem eps_cons {g : Env → Option M} {r : Env → Option (List M)} (h : EP K te g) (hr : EPs K ta r) : EPs K (tCons te ta) (psCons g r) := fun F H σ ρ as m Q hs so e k => by
  unfold psCons at e
  split at e
  · rename_i m0 ms e1 e2
    cases e
    refine h F H σ ρ as m0 _ hs so e1 fun F1 H1 v rs g1 o1 => ?_
    refine hr F1 H1 σ ρ as ms _ g1.fh (so.grow g1) e2 fun F2 H2 vs g2 o2 => ?_
    exact k F2 H2 (v :: vs) (g1.trans g2) (.cons (o1.grow g2) o2)
  · cases e
def xNil : G (List D) := gRet []
def xCons (g : G D) (r : G (List D)) : G (List D) := gBind g fun d => gBind r fun ds => gRet (d :: ds)
theorem exs_nil : EXs K E kp tNil xNil := fun F H σ ρ as o Q hs so e hx k => k [] ρ (gRet_ok e) F H as [] (.refl hs) so .nil
theorem exs_cons {g : G D} {r : G (List D)} (h : EX K E kp te g) (hr : EXs K E kp ta r) : EXs K E kp (tCons te ta) (xCons g r) := fun F H σ ρ as o Q hs so e hx k => by
  refine h.use hs so e hx fun d ρ1 F1 H1 as1 v g1 so1 r1 e1 => ?_
  refine hr.use g1.fh so1 e1 (hx.step (.refl _) g1) fun ds ρ2 F2 H2 as2 vs g2 so2 r2 e2 => ?_
  obtain rfl := gRet_ok e2
  exact k _ _ rfl F2 H2 as2 (v :: vs) (g1.trans g2) so2 (.cons (r1.mono g2.ff) r2)
theorem Ois.dats : ∀ {vs : List V} {ds : List D}, DVs K F vs ds → Ois K F H vs (ds.map M.dat)
  | _, _, .nil => .nil
  | _, _, .cons h hs => .cons (as := []) (.dat h) (Ois.dats hs)
def nL (f : List M → Option M) (gs : Env → Option (List M)) : Env → Option M := fun ρ => match gs ρ with
  | some ms => f ms
  | none => none
def xL (f : List M → Option M) (gs : G (List D)) : G M := gBind gs fun ds => gOpt (f (ds.map M.dat))
theorem en_cb {r : List V → Hp → VK → Prop} {f : List M → Option M} {gs : Env → Option (List M)} (p : PL K r f) (ha : EPs K ta gs) : EN K (tCB r ta) (nL f gs) := fun F H σ ρ as m Q hs so e k => by
  unfold nL at e
  split at e
  · rename_i ms e1
    refine ha F H σ ρ as ms _ hs so e1 fun F1 H1 vs g1 o1 => ?_
    exact p F1 H1 vs ms m Q g1.fh o1 e fun F3 H3 u ts g3 o3 n3 => k F3 H3 u ts (g1.trans g3) o3 fun z hz => back_none g1 (n3 z hz)
  · cases e
theorem em_cb {r : List V → Hp → VK → Prop} {f : List M → Option M} {gs : G (List D)} (p : PL K r f) (ha : EXs K E kp ta gs) : EM K E kp (tCB r ta) (xL f gs) := fun F H σ ρ as o Q hs so e hx k => by
  refine ha.use hs so e hx fun ds ρ1 F1 H1 as1 vs g1 so1 r1 e1 => ?_
  obtain ⟨m, e3, eo⟩ := gOpt_ok e1
  exact p F1 H1 vs _ m Q g1.fh (Ois.dats r1) e3 (em_fin (t := m) so1 g1 eo k)
/-- methods of built-in types, pure -/
def PB (K : Kx) (T : String) (r : V → List V → Hp → VK → Prop) (f : M → List M → Option M) : Prop :=
  ∀ F H v m as, Same F H → Own K F H v m as → (∃ x, f m x ≠ none) → tyV K.K T v H ∧ ∀ F' H' vs ms t Q, Gr F H [] F' H' [] → Own K F' H' v m as → Ois K F' H' vs ms → f m ms = some t → (∀ F2 H2 u rs, Gr F' H' [] F2 H2 [] → Own K F2 H2 u t rs → (∀ z ∈ rs, H' z = none) → Q u H2) → r v vs H' Q
def nB (f : M → List M → Option M) (g : Env → Option M) (gs : Env → Option (List M)) : Env → Option M := fun ρ => match g ρ, gs ρ with
  | some m, some ms => f m ms
  | _, _ => none
theorem en_bm {T : String} {r : V → List V → Hp → VK → Prop} {f : M → List M → Option M} {gs : Env → Option (List M)} (p : PB K T r f) (ho : EP K te ga) (ha : EPs K ta gs) : EN K (tBM K.K T r te ta) (nB f ga gs) := fun F H σ ρ as m Q hs so e k => by
  unfold nB at e
  split at e
  · rename_i m0 ms e1 e2
    refine ho F H σ ρ as m0 _ hs so e1 fun F1 H1 v rs g1 o1 => ?_
    obtain ⟨ty, q⟩ := p F1 H1 v m0 rs g1.fh o1 ⟨ms, by rw [e]; simp⟩
    refine ⟨ty, ha F1 H1 σ ρ as ms _ g1.fh (so.grow g1) e2 fun F2 H2 vs g2 o2 => ?_⟩
    exact q F2 H2 vs ms m Q g2 (o1.grow g2) o2 e fun F3 H3 u ts g3 o3 n3 => k F3 H3 u ts ((g1.trans g2).trans g3) o3 fun z hz => back_none (g1.trans g2) (n3 z hz)
  · cases e
theorem en_bm0 {T : String} {r : V → List V → Hp → VK → Prop} {f : M → List M → Option M} (p : PB K T r f) (ho : EP K te ga) : EN K (tBM0 K.K T r te) (nB f ga psNil) := fun F H σ ρ as m Q hs so e k => by
  unfold nB psNil at e
  split at e
  · rename_i m0 ms e1 e2
    cases e2
    refine ho F H σ ρ as m0 _ hs so e1 fun F1 H1 v rs g1 o1 => ?_
    obtain ⟨ty, q⟩ := p F1 H1 v m0 rs g1.fh o1 ⟨[], by rw [e]; simp⟩
    exact ⟨ty, q F1 H1 [] [] m Q (.refl g1.fh) o1 .nil e fun F3 H3 u ts g3 o3 n3 => k F3 H3 u ts (g1.trans g3) o3 fun z hz => back_none g1 (n3 z hz)⟩
  · cases e
def xB (f : M → List M → Option M) (g : G D) (gs : G (List D)) : G M := gBind g fun d => gBind gs fun ds => gOpt (f (.dat d) (ds.map M.dat))
/-! ### displays -/
def nTup (gs : Env → Option (List D)) : Env → Option M := fun ρ => match gs ρ with
  | some ds => if ds.length ≤ 1000 then some (.dat (.tup ds)) else none
  | none => none
def nLst (gs : Env → Option (List D)) : Env → Option M := fun ρ => match gs ρ with
  | some ds => if ds.length ≤ 1000 then some (.lst (ds.map M.dat)) else none
  | none => none
theorem big {n : Nat} (h : n ≤ 1000) : n ≤ sizeLine := Nat.le_trans h (by decide)
theorem big5 {n : Nat} (h : n ≤ 100000) : n ≤ sizeLine := Nat.le_trans h (by decide)
theorem en_tup {gs : Env → Option (List D)} (ha : PD K ta gs) : EN K (tTup ta) (nTup gs) := fun F H σ ρ as m Q hs so e k => by
  unfold nTup at e
  split at e
  · rename_i ds e1
    split at e
    · rename_i hl
      cases e
      refine ha F H σ ρ as ds _ hs so e1 fun F1 H1 vs g1 r => ⟨by rw [r.length]; exact big hl, fun p hp => ?_⟩
      have gn := Gr.newF (o := .tup vs) g1.fh hp
      exact k _ _ (.ref p) [] (g1.trans gn) (.dat (.tup (.of upd_same) (r.mono gn.ff))) (by simp)
    · cases e
  · cases e
theorem en_lst {gs : Env → Option (List D)} (ha : PD K ta gs) : EN K (tLst ta) (nLst gs) := fun F H σ ρ as m Q hs so e k => by
  unfold nLst at e
  split at e
  · rename_i ds e1
    split at e
    · rename_i hl
      cases e
      refine ha F H σ ρ as ds _ hs so e1 fun F1 H1 vs g1 r => ⟨by rw [r.length]; exact big hl, fun p hp => ?_⟩
      have gn := Gr.new (o := .lst vs) g1.fh hp
      exact k _ _ (.ref p) [p] (g1.trans (gn.less (by simp))) (.lst upd_same (g1.fh.free hp) (Owns.dats r) (by simp)) fun z hz => by
        rw [List.mem_singleton.mp hz]
        exact back_none g1 hp
    · cases e
  · cases e
def xTup (gs : G (List D)) : G D := gBind gs fun ds => gOpt (if ds.length ≤ 1000 then some (.tup ds) else none)
theorem ex_tup {gs : G (List D)} (ha : EXs K E kp ta gs) : EX K E kp (tTup ta) (xTup gs) := fun F H σ ρ as o Q hs so e hx k => by
  refine ha.use hs so e hx fun ds ρ1 F1 H1 as1 vs g1 so1 r1 e1 => ?_
  obtain ⟨d, e2, rfl⟩ := gOpt_ok e1
  split at e2
  · rename_i hl
    cases e2
    refine ⟨by rw [r1.length]; exact big hl, fun p hp => ?_⟩
    have gn := Gr.newF (o := .tup vs) g1.fh hp
    exact k _ _ rfl _ _ as1 (.ref p) (g1.trans (gn.weak as1)) (so1.grow gn) (.tup (.of upd_same) (r1.mono gn.ff))
  · cases e2
def xLst (gs : G (List D)) : G M := gBind gs fun ds => gOpt (if ds.length ≤ 1000 then some (.lst (ds.map M.dat)) else none)
theorem em_lst {gs : G (List D)} (ha : EXs K E kp ta gs) : EM K E kp (tLst ta) (xLst gs) := fun F H σ ρ as o Q hs so e hx k => by
  refine ha.use hs so e hx fun ds ρ1 F1 H1 as1 vs g1 so1 r1 e1 => ?_
  obtain ⟨d, e2, rfl⟩ := gOpt_ok e1
  split at e2
  · rename_i hl
    cases e2
    refine ⟨by rw [r1.length]; exact big hl, fun p hp => ?_⟩
    have gn := Gr.new (o := .lst vs) g1.fh hp
    have gn' : Gr F1 H1 [] F1 (upd H1 p (.lst vs)) [] := gn.less (by simp)
    refine k _ _ rfl _ _ as1 [p] (.ref p) (g1.trans (gn'.re gn.ff gn.fh (by simp) (fun a z => (List.mem_append.mp z).imp id fun y => by rw [List.mem_singleton.mp y]; exact hp) (fun a e q _ => gn.fz a e q (by simp)))) (so1.grow gn') (.lst upd_same (g1.fh.free hp) (Owns.dats r1) (by simp)) fun z hz y => ?_
    rw [List.mem_singleton.mp hz] at y
    exact (so1.has _ y).1 hp
  · cases e2
/-! ### slices -/
def EO (K : Kx) (t : TO) (g : Env → Option (Option Int)) : Prop :=
  ∀ F H σ ρ as b Q, Same F H → SO K F H σ ρ as → g ρ = some b → (∀ F' H', Gr F H [] F' H' [] → Q b H') → t σ H Q
def oNo : Env → Option (Option Int) := fun _ => some none
def oAt (g : Env → Option M) : Env → Option (Option Int) := fun ρ => match g ρ with
  | some (.dat (.int i)) => some (some i)
  | _ => none
theorem eo_no : EO K tNoPart oNo := fun F H σ ρ as b Q hs so e k => by
  cases e
  exact k F H (.refl hs)
theorem eo_at (h : EP K te ga) : EO K (tPart te) (oAt ga) := fun F H σ ρ as b Q hs so e k => by
  unfold oAt at e
  split at e
  · rename_i i e1
    cases e
    refine h F H σ ρ as _ _ hs so e1 fun F1 H1 v rs g1 o1 => ?_
    exact ⟨i, o1.dat_inv.1.int_inv, k F1 H1 g1⟩
  · cases e
def PS3 (K : Kx) (r : V → Option Int → Option Int → Hp → VK → Prop) (f : M → Option Int → Option Int → Option M) : Prop :=
  ∀ F H v m as lo hi t Q, Same F H → Own K F H v m as → f m lo hi = some t → (∀ F' H' u rs, Gr F H [] F' H' [] → Own K F' H' u t rs → (∀ z ∈ rs, H z = none) → Q u H') → r v lo hi H Q
def nSl (f : M → Option Int → Option Int → Option M) (g : Env → Option M) (lo hi : Env → Option (Option Int)) : Env → Option M := fun ρ => match g ρ, lo ρ, hi ρ with
  | some m, some l, some h => f m l h
  | _, _, _ => none
theorem en_sl {r : V → Option Int → Option Int → Hp → VK → Prop} {f : M → Option Int → Option Int → Option M} {tl th : TO} {lo hi : Env → Option (Option Int)} (p : PS3 K r f) (h : EP K te ga) (hl : EO K tl lo) (hh : EO K th hi) : EN K (tSl r te tl th) (nSl f ga lo hi) := fun F H σ ρ as m Q hs so e k => by
  unfold nSl at e
  split at e
  · rename_i m0 l u e1 e2 e3
    refine h F H σ ρ as m0 _ hs so e1 fun F1 H1 v rs g1 o1 => ?_
    refine hl F1 H1 σ ρ as l _ g1.fh (so.grow g1) e2 fun F2 H2 g2 => ?_
    refine hh F2 H2 σ ρ as u _ g2.fh (so.grow (g1.trans g2)) e3 fun F3 H3 g3 => ?_
    have g := (g1.trans g2).trans g3
    exact p F3 H3 v m0 rs l u m Q g3.fh (o1.grow (g2.trans g3)) e fun F4 H4 w ts g4 o4 n4 => k F4 H4 w ts (g.trans g4) o4 fun z hz => back_none g (n4 z hz)
  · cases e
/-- .. of what effects give, by pure bounds -/
def xSl (f : M → Option Int → Option Int → Option M) (g : G D) (lo hi : Env → Option (Option Int)) : G M := gBind g fun d ρ => match lo ρ, hi ρ with
  | some l, some h => gOpt (f (.dat d) l h) ρ
  | _, _ => none
theorem em_sl {r : V → Option Int → Option Int → Hp → VK → Prop} {f : M → Option Int → Option Int → Option M} {tl th : TO} {lo hi : Env → Option (Option Int)} (p : PS3 K r f) (h : EX K E kp te xa) (hl : EO K tl lo) (hh : EO K th hi) : EM K E kp (tSl r te tl th) (xSl f xa lo hi) := fun F H σ ρ as o Q hs so e hx k => by
  refine h.use hs so e hx fun d ρ1 F1 H1 as1 v g1 so1 r1 e1 => ?_
  split at e1
  · rename_i l u e2 e3
    obtain ⟨m, e4, eo⟩ := gOpt_ok e1
    refine hl F1 H1 σ ρ1 as1 l _ g1.fh so1 e2 fun F2 H2 g2 => ?_
    refine hh F2 H2 σ ρ1 as1 u _ g2.fh (so1.grow g2) e3 fun F3 H3 g3 => ?_
    have g23 := g2.trans g3
    exact p F3 H3 v _ [] l u m Q g3.fh (.dat (r1.mono g23.ff)) e4 (em_fin (t := m) (so1.grow g23) (g1.trans (g23.weak as1)) eo k)
  · cases e1
/-! ### tests -/
def asB : D → Option Bool
  | .bl b => some b
  | _ => none
theorem asB_ok {d : D} {b : Bool} (h : asB d = some b) : d = .bl b := by cases d <;> simp_all [asB]
def tB' (g : Env → Option M) : Env → Option Bool := fun ρ => match g ρ with
  | some (.dat (.bl b)) => some b
  | _ => none
theorem ept_test (h : EP K te ga) : EPT K (tTest te) (tB' ga) := fun F H σ ρ as b Q hs so e k => by
  unfold tB' at e
  split at e
  · rename_i b' e1
    cases e
    exact h F H σ ρ as _ _ hs so e1 fun F1 H1 v rs g1 o1 => ⟨_, o1.dat_inv.1.bl_inv, k F1 H1 g1⟩
  · cases e
theorem ept_B (h : EP K te ga) : EPT K (tB te) (tB' ga) := ept_test h
def tbAnd (a b : Env → Option Bool) : Env → Option Bool := fun ρ => match a ρ with
  | some true => b ρ
  | some false => some false
  | none => none
def tbOr (a b : Env → Option Bool) : Env → Option Bool := fun ρ => match a ρ with
  | some true => some true
  | some false => b ρ
  | none => none
def tbNot (a : Env → Option Bool) : Env → Option Bool := fun ρ => match a ρ with
  | some b => some (!b)
  | none => none
theorem ept_and {t u : TT} {a b : Env → Option Bool} (h1 : EPT K t a) (h2 : EPT K u b) : EPT K (tAnd t u) (tbAnd a b) := fun F H σ ρ as b' Q hs so e k => by
  unfold tbAnd at e
  split at e
  · rename_i e1
    refine h1 F H σ ρ as _ _ hs so e1 fun F1 H1 g1 => ?_
    show u σ H1 Q
    exact h2 F1 H1 σ ρ as _ _ g1.fh (so.grow g1) e fun F2 H2 g2 => k F2 H2 (g1.trans g2)
  · rename_i e1
    cases e
    refine h1 F H σ ρ as _ _ hs so e1 fun F1 H1 g1 => ?_
    exact k F1 H1 g1
  · cases e
theorem ept_or {t u : TT} {a b : Env → Option Bool} (h1 : EPT K t a) (h2 : EPT K u b) : EPT K (tOr t u) (tbOr a b) := fun F H σ ρ as b' Q hs so e k => by
  unfold tbOr at e
  split at e
  · rename_i e1
    cases e
    refine h1 F H σ ρ as _ _ hs so e1 fun F1 H1 g1 => ?_
    exact k F1 H1 g1
  · rename_i e1
    refine h1 F H σ ρ as _ _ hs so e1 fun F1 H1 g1 => ?_
    show u σ H1 Q
    exact h2 F1 H1 σ ρ as _ _ g1.fh (so.grow g1) e fun F2 H2 g2 => k F2 H2 (g1.trans g2)
  · cases e
theorem ept_not {t : TT} {a : Env → Option Bool} (h1 : EPT K t a) : EPT K (tNot t) (tbNot a) := fun F H σ ρ as b' Q hs so e k => by
  unfold tbNot at e
  split at e
  · rename_i b0 e1
    cases e
    exact h1 F H σ ρ as _ _ hs so e1 fun F1 H1 g1 => k F1 H1 g1
  · cases e
def tbYes : Env → Option Bool := fun _ => some true
theorem ept_yes : EPT K tYes tbYes := fun F H σ ρ as b Q hs so e k => by
  cases e
  exact k F H (.refl hs)
theorem EPT.et {t : TT} {a : Env → Option Bool} (h : EPT K t a) : ET K E kp t (gOf a) := fun F H σ ρ as o Q hs so e hx k => by
  obtain ⟨b, e1, rfl⟩ := gOf_ok e
  exact h F H σ ρ as b _ hs so e1 fun F1 H1 g1 => k b ρ rfl F1 H1 as b (g1.weak as) (so.grow g1) rfl
theorem et_test {g : G D} (h : EX K E kp te g) : ET K E kp (tTest te) (gBind g fun d => gOpt (asB d)) := fun F H σ ρ as o Q hs so e hx k => by
  refine h.use hs so e hx fun d ρ1 F1 H1 as1 v g1 so1 r e1 => ?_
  obtain ⟨b, e2, rfl⟩ := gOpt_ok e1
  have := asB_ok e2
  subst this
  exact ⟨b, r.bl_inv, k b ρ1 rfl F1 H1 as1 b g1 so1 rfl⟩
theorem et_B {g : G D} (h : EX K E kp te g) : ET K E kp (tB te) (gBind g fun d => gOpt (asB d)) := et_test h
theorem et_and {t u : TT} {a b : G Bool} (h1 : ET K E kp t a) (h2 : ET K E kp u b) : ET K E kp (tAnd t u) (gBind a fun x => bif x then b else gRet false) := fun F H σ ρ as o Q hs so e hx k => by
  refine h1.use hs so e hx fun x ρ1 F1 H1 as1 x' g1 so1 r e1 => ?_
  subst r
  cases x' with
  | true =>
    show u σ H1 Q
    exact h2 F1 H1 σ ρ1 as1 o Q g1.fh so1 e1 (hx.step (.refl _) g1) fun y ρ' eo F' H' as' a' g' so' r' => k y ρ' eo F' H' as' a' (g1.trans g') so' r'
  | false =>
    obtain rfl := gRet_ok e1
    exact k false ρ1 rfl F1 H1 as1 false g1 so1 rfl
theorem et_or {t u : TT} {a b : G Bool} (h1 : ET K E kp t a) (h2 : ET K E kp u b) : ET K E kp (tOr t u) (gBind a fun x => bif x then gRet true else b) := fun F H σ ρ as o Q hs so e hx k => by
  refine h1.use hs so e hx fun x ρ1 F1 H1 as1 x' g1 so1 r e1 => ?_
  subst r
  cases x' with
  | true =>
    obtain rfl := gRet_ok e1
    exact k true ρ1 rfl F1 H1 as1 true g1 so1 rfl
  | false =>
    show u σ H1 Q
    exact h2 F1 H1 σ ρ1 as1 o Q g1.fh so1 e1 (hx.step (.refl _) g1) fun y ρ' eo F' H' as' a' g' so' r' => k y ρ' eo F' H' as' a' (g1.trans g') so' r'
theorem et_not {t : TT} {a : G Bool} (h1 : ET K E kp t a) : ET K E kp (tNot t) (gBind a fun x => gRet (!x)) := fun F H σ ρ as o Q hs so e hx k => by
  refine h1.use hs so e hx fun x ρ1 F1 H1 as1 x' g1 so1 r e1 => ?_
  subst r
  obtain rfl := gRet_ok e1
  exact k _ ρ1 rfl F1 H1 as1 _ g1 so1 rfl
theorem et_yes : ET K E kp tYes (gRet true) := fun F H σ ρ as o Q hs so e hx k => k true ρ (gRet_ok e) F H as true (.refl hs) so rfl
/-! ### and, or, not as values; chains -/
def nAnd (a b : Env → Option M) : Env → Option M := fun ρ => match a ρ with
  | some (.dat (.bl true)) => b ρ
  | some (.dat (.bl false)) => some (.dat (.bl false))
  | _ => none
def nOr (a b : Env → Option M) : Env → Option M := fun ρ => match a ρ with
  | some (.dat (.bl true)) => some (.dat (.bl true))
  | some (.dat (.bl false)) => b ρ
  | _ => none
def nNot (a : Env → Option M) : Env → Option M := fun ρ => match a ρ with
  | some (.dat (.bl b)) => some (.dat (.bl (!b)))
  | _ => none
theorem ep_andV (h1 : EP K te ga) (h2 : EP K tb gb) : EP K (tAndV te tb) (nAnd ga gb) := fun F H σ ρ as m Q hs so e k => by
  unfold nAnd at e
  split at e
  · rename_i e1
    refine h1 F H σ ρ as _ _ hs so e1 fun F1 H1 v rs g1 o1 => ⟨true, o1.dat_inv.1.bl_inv, ?_⟩
    show tb σ H1 Q
    exact h2 F1 H1 σ ρ as _ _ g1.fh (so.grow g1) e fun F2 H2 w ss g2 o2 => k F2 H2 w ss (g1.trans g2) o2
  · rename_i e1
    cases e
    refine h1 F H σ ρ as _ _ hs so e1 fun F1 H1 v rs g1 o1 => ⟨false, o1.dat_inv.1.bl_inv, ?_⟩
    exact k F1 H1 _ [] g1 (.dat (.bl false))
  · cases e
theorem ep_orV (h1 : EP K te ga) (h2 : EP K tb gb) : EP K (tOrV te tb) (nOr ga gb) := fun F H σ ρ as m Q hs so e k => by
  unfold nOr at e
  split at e
  · rename_i e1
    cases e
    refine h1 F H σ ρ as _ _ hs so e1 fun F1 H1 v rs g1 o1 => ⟨true, o1.dat_inv.1.bl_inv, ?_⟩
    exact k F1 H1 _ [] g1 (.dat (.bl true))
  · rename_i e1
    refine h1 F H σ ρ as _ _ hs so e1 fun F1 H1 v rs g1 o1 => ⟨false, o1.dat_inv.1.bl_inv, ?_⟩
    show tb σ H1 Q
    exact h2 F1 H1 σ ρ as _ _ g1.fh (so.grow g1) e fun F2 H2 w ss g2 o2 => k F2 H2 w ss (g1.trans g2) o2
  · cases e
theorem ep_notV (h1 : EP K te ga) : EP K (tNotV te) (nNot ga) := fun F H σ ρ as m Q hs so e k => by
  unfold nNot at e
  split at e
  · rename_i b e1
    cases e
    exact h1 F H σ ρ as _ _ hs so e1 fun F1 H1 v rs g1 o1 => ⟨b, o1.dat_inv.1.bl_inv, k F1 H1 _ [] g1 (.dat (.bl _))⟩
  · cases e
def xAnd (a b : G D) : G D := gBind a fun x => match x with
  | .bl true => b
  | .bl false => gRet (.bl false)
  | _ => fun _ => none
def xOr (a b : G D) : G D := gBind a fun x => match x with
  | .bl true => gRet (.bl true)
  | .bl false => b
  | _ => fun _ => none
theorem ex_andV (h1 : EX K E kp te xa) (h2 : EX K E kp tb xb) : EX K E kp (tAndV te tb) (xAnd xa xb) := fun F H σ ρ as o Q hs so e hx k => by
  refine h1.use hs so e hx fun x ρ1 F1 H1 as1 v g1 so1 r e1 => ?_
  split at e1
  · refine ⟨true, r.bl_inv, ?_⟩
    show tb σ H1 Q
    exact h2 F1 H1 σ ρ1 as1 o Q g1.fh so1 e1 (hx.step (.refl _) g1) fun y ρ' eo F' H' as' a' g' so' r' => k y ρ' eo F' H' as' a' (g1.trans g') so' r'
  · obtain rfl := gRet_ok e1
    exact ⟨false, r.bl_inv, k _ ρ1 rfl F1 H1 as1 _ g1 so1 (.bl false)⟩
  · cases e1
theorem ex_orV (h1 : EX K E kp te xa) (h2 : EX K E kp tb xb) : EX K E kp (tOrV te tb) (xOr xa xb) := fun F H σ ρ as o Q hs so e hx k => by
  refine h1.use hs so e hx fun x ρ1 F1 H1 as1 v g1 so1 r e1 => ?_
  split at e1
  · obtain rfl := gRet_ok e1
    exact ⟨true, r.bl_inv, k _ ρ1 rfl F1 H1 as1 _ g1 so1 (.bl true)⟩
  · refine ⟨false, r.bl_inv, ?_⟩
    show tb σ H1 Q
    exact h2 F1 H1 σ ρ1 as1 o Q g1.fh so1 e1 (hx.step (.refl _) g1) fun y ρ' eo F' H' as' a' g' so' r' => k y ρ' eo F' H' as' a' (g1.trans g') so' r'
  · cases e1
/-- a name op= e -/
def gAug (i : Nat) (f : M → M → Option M) (ge : G D) : G Fl := fun ρ => match ρ[i]? with
  | some (some (.dat d0)) => gBind ge (fun d ρ1 => match f (.dat d0) (.dat d) with
    | some (.dat d') => some (.ok .nx (ρ1.set i (some (.dat d'))))
    | _ => none) ρ
  | _ => none
theorem rn_aug {i : Nat} {ti : TIp} {f : M → M → Option M} {ge : G D} (hi : kp i = false) (p : P2 K ti f) (he : EX K E kp te ge) : RN K E kp (tAug i te ti) (gAug i f ge) := fun F H σ ρ as o D hs so e hx hp => by
  unfold gAug at e
  split at e
  case h_2 => cases e
  rename_i d0 em
  obtain ⟨v, ms, h1, h2, _⟩ := so.at em
  have r0 := h2.dat_inv.1
  refine ⟨v, h1, he.use hs so e hx fun d ρ1 F1 H1 as1 w g1 so1 r e1 => ?_⟩
  split at e1
  case h_2 => cases e1
  rename_i d' e2
  refine p F1 H1 v w _ _ [] [] _ _ g1.fh (.dat (r0.mono g1.ff)) (.dat r) e2 fun F2 H2 u rs g2 o2 n2 => ?_
  obtain ⟨as2, q1, q2⟩ := (so1.grow g2).set i o2 fun a z y => (so1.has a y).1 (n2 a z)
  have := o2.dat_inv.2
  subst this
  refine hp.nx _ (Option.some.inj e1).symm F2 H2 _ as2 (Keeps.set hi) ((g1.trans (g2.weak as1)).less fun a z => ?_) q1
  exact (q2 a z).elim id (by simp)
/-- o.f = e -/
def gFSet (c : Nat) (f : Str) (ge : G M) (pf : Env → Option Pth) : G Fl := gBind ge fun m ρ => match pf ρ with
  | some p => (match getP ρ p with
    | some (.obj c' fs) => if c' = c ∧ fs.length < 1000 then some (.ok .nx (putP ρ p (.obj c' (putM f m fs)))) else none
    | _ => none)
  | none => none
theorem put_fields : ∀ {fvs : List (Str × V)} {fs : List (Str × M)} {as : List Addr} {f : Str} {v : V} {m : M} {ms : List Addr}, fvs.map (·.1) = fs.map (·.1) → Owns K F H (fvs.map (·.2)) (fs.map (·.2)) as → Own K F H v m ms → (∀ a ∈ ms, a ∉ as) →
    ∃ cs, (putF f v fvs).map (·.1) = (putM f m fs).map (·.1) ∧ Owns K F H ((putF f v fvs).map (·.2)) ((putM f m fs).map (·.2)) cs ∧ ∀ a ∈ cs, a ∈ as ∨ a ∈ ms
  | [], [], as, f, v, m, ms, hn, ho, h, n => ⟨ms ++ [], rfl, .cons h .nil (by simp), fun a z => .inr (by simpa using z)⟩
  | [], _ :: _, as, f, v, m, ms, hn, ho, h, n => by simp at hn
  | _ :: _, [], as, f, v, m, ms, hn, ho, h, n => by simp at hn
  | (g, u) :: fvs, (g', m0) :: fs, as, f, v, m, ms, hn, ho, h, n => by
    simp only [List.map_cons, List.cons.injEq] at hn
    obtain ⟨hg, hn⟩ := hn
    have hg : g = g' := hg
    subst hg
    simp only [List.map_cons] at ho
    cases ho with
    | cons h0 hs0 n0 =>
      rename_i xs ys
      by_cases hf : g = f
      · have e1 : putF f v ((g, u) :: fvs) = (g, v) :: fvs := by unfold putF; rw [if_pos hf]
        have e2 : putM f m ((g, m0) :: fs) = (g, m) :: fs := by unfold putM; rw [if_pos hf]
        rw [e1, e2]
        refine ⟨ms ++ ys, by simp [hn], .cons h hs0 fun a z y => n a z (List.mem_append_right _ y), fun a z => ?_⟩
        exact (List.mem_append.mp z).elim .inr fun y => .inl (List.mem_append_right _ y)
      · have e1 : putF f v ((g, u) :: fvs) = (g, u) :: putF f v fvs := by rw [putF, if_neg hf]
        have e2 : putM f m ((g, m0) :: fs) = (g, m0) :: putM f m fs := by rw [putM, if_neg hf]
        rw [e1, e2]
        obtain ⟨cs, q1, q2, q3⟩ := put_fields (f := f) hn hs0 h fun a z y => n a z (List.mem_append_right _ y)
        refine ⟨xs ++ cs, by simp [q1], .cons h0 q2 fun a z y => ?_, fun a z => ?_⟩
        · rcases q3 a y with y | y
          · exact n0 a z y
          · exact n a y (List.mem_append_left _ z)
        · rcases List.mem_append.mp z with z | z
          · exact .inl (List.mem_append_left _ z)
          · exact (q3 a z).imp (List.mem_append_right _) id
theorem rn_fset {c : Nat} {f : Str} {to : TE} {ge : G M} {pf : Env → Option Pth} (cl : Cls K.K (K.ca c)) (na : NoAttr K.K (K.ca c) f) (he : EM K E kp te ge) (hp : LP K to pf) : RN K E kp (sFld K.K to te f) (gFSet c f ge pf) := fun F H σ ρ as o D hs so e hx hpost => by
  refine he.use hs so e hx fun m ρ1 F1 H1 as1 rs w g1 so1 r n e1 => ?_
  split at e1
  case h_2 => cases e1
  rename_i p e2
  split at e1
  case h_2 => cases e1
  rename_i c' fs em
  split at e1
  case isFalse => cases e1
  rename_i hc
  obtain ⟨hc, hlen⟩ := hc
  subst hc
  refine hp F1 H1 σ ρ1 as1 p _ _ g1.fh so1 e2 em fun F2 H2 v bs g2 fo => ?_
  have ho := fo.own
  cases ho with
  | obj ha hd fa fd en hv n1 n2 n3 =>
    rename_i a dx fvs xs
    have hl2 : fvs.length = fs.length := by
      have := congrArg List.length en
      simpa using this
    refine ⟨a, _, dx, fvs, rfl, ha, cl, na, by rw [hl2]; exact hlen, ?_⟩
    have rg := r.grow g2
    have rdisj : ∀ z ∈ rs, z ∉ a :: dx :: xs := fun z hz y => n z hz (fo.sub z y)
    have gm1 : Gr F2 H2 [a] F2 (upd H2 a (.ins (K.ca c') dx (putF f w fvs))) [a] := Gr.mut g2.fh fa (by simp)
    have hv' := hv.frame gm1 fun b hb z => n1 (by rw [List.mem_singleton.mp z] at hb; exact hb)
    have r' := rg.frame gm1 fun b hb z => rdisj b hb (by rw [List.mem_singleton.mp z]; exact List.mem_cons_self)
    obtain ⟨cs, q1, q2, q3⟩ := put_fields (f := f) en hv' r' fun z hz y => rdisj z hz (List.mem_cons_of_mem _ (List.mem_cons_of_mem _ y))
    have own' : Own K F2 (upd H2 a (.ins (K.ca c') dx (putF f w fvs))) (.ref a) (.obj c' (putM f m fs)) (a :: dx :: cs) := by
      refine .obj upd_same (by rw [upd_ne n3.symm]; exact hd) fa fd q1 q2 (fun z => ?_) (fun z => ?_) n3
      · exact (q3 a z).elim n1 fun y => rdisj a y List.mem_cons_self
      · exact (q3 dx z).elim n2 fun y => rdisj dx y (List.mem_cons_of_mem _ List.mem_cons_self)
    -- put back: the new field's tree was the answer's own
    have grsub : Gr F2 H2 ((a :: dx :: xs) ++ rs) F2 (upd H2 a (.ins (K.ca c') dx (putF f w fvs))) (a :: dx :: cs) := by
      have gm : Gr F2 H2 ((a :: dx :: xs) ++ rs) F2 (upd H2 a (.ins (K.ca c') dx (putF f w fvs))) ((a :: dx :: xs) ++ rs) := Gr.mut g2.fh fa (by simp)
      refine gm.less fun b z => ?_
      rcases List.mem_cons.mp z with z | z
      · rw [z]; simp
      · rcases List.mem_cons.mp z with z | z
        · rw [z]; simp
        · rcases q3 b z with y | y
          · simp [y]
          · simp [y]
    obtain ⟨as', w1, w2⟩ := fo.put _ _ _ _ _ (fun b z y => (List.mem_append.mp z).elim id fun w => absurd y (n b w)) grsub own'
    have gall : Gr F2 H2 (as1 ++ rs) F2 (upd H2 a (.ins (K.ca c') dx (putF f w fvs))) as' := grsub.lift (fun b z => ?_) fun b z => ?_
    · exact hpost.nx _ (Option.some.inj e1).symm F2 _ σ as' (.refl _) ((g1.trans (g2.weak _)).trans gall) w1
    · rcases List.mem_append.mp z with z | z
      · exact List.mem_append_left _ (fo.sub b z)
      · exact List.mem_append_right _ z
    · rcases w2 b z with y | y
      · exact .inl (List.mem_append_left _ y.1)
      · exact .inr y
end
end Y
/-! Y: the operations on values, by what they do to data. -/
namespace Y
open PySem L2
variable [TabC]

/-! ### lists as data -/
def dats : List M → Option (List D)
  | [] => some []
  | .dat d :: ms => (match dats ms with
    | some ds => some (d :: ds)
    | none => none)
  | _ :: _ => none
theorem dats_map : ∀ ds : List D, dats (ds.map M.dat) = some ds
  | [] => rfl
  | d :: ds => by
    show (match dats (ds.map M.dat) with
    | some ds => some (d :: ds)
    | none => none) = _
    rw [dats_map ds]
theorem dats_of : ∀ {ms : List M} {ds : List D}, dats ms = some ds → ms = ds.map M.dat
  | [], _, h => by cases h; rfl
  | .dat d :: ms, ds, h => by
    unfold dats at h
    split at h
    · rename_i ds' e
      cases h
      rw [dats_of e]
      rfl
    · cases h
  | .lst _ :: _, _, h => by cases h
  | .dic _ :: _, _, h => by cases h
  | .obj _ _ :: _, _, h => by cases h
def litems : M → Option (List D)
  | .dat (.lst ds) => some ds
  | .lst ms => dats ms
  | _ => none
section
variable {K : Kx} {F F' H H' : Hp} {as : List Addr}
theorem Owns.dats_inv : ∀ {vs : List V} {ds : List D} {as : List Addr}, Owns K F H vs (ds.map M.dat) as → DVs K F vs ds
  | _, [], _, h => by cases h; exact .nil
  | _, d :: ds, _, h => by
    cases h with
    | cons h hs n => exact .cons h.dat_inv.1 (Owns.dats_inv hs)
theorem Own.items (hs : Same F H) {v : V} {m : M} {ds : List D} (h : Own K F H v m as) (e : litems m = some ds) : ∃ a vs, v = .ref a ∧ H a = some (.lst vs) ∧ DVs K F vs ds := by
  cases h with
  | dat h =>
    rename_i d
    cases d <;> simp only [litems] at e <;> try cases e
    obtain ⟨a, xs, rfl, h1, h2⟩ := h.lst_inv
    exact ⟨a, xs, rfl, hs _ _ h1, h2⟩
  | lst ha fa hv n =>
    simp only [litems] at e
    have := dats_of e
    subst this
    exact ⟨_, _, rfl, ha, hv.dats_inv⟩
  | dic _ _ _ => simp only [litems] at e; cases e
  | obj _ _ _ _ _ _ _ _ _ => simp only [litems] at e; cases e
theorem new_list {vs : List V} {ds : List D} {Q : VK} (hs : Same F H) (r : DVs K F vs ds) (k : ∀ F' H' u rs, Gr F H [] F' H' [] → Own K F' H' u (.lst (ds.map M.dat)) rs → (∀ z ∈ rs, H z = none) → Q u H') : ∀ p, H p = none → Q (.ref p) (upd H p (.lst vs)) := fun p hp => by
  have gn := Gr.new (o := .lst vs) hs hp
  exact k _ _ _ [p] (gn.less (by simp)) (.lst upd_same (hs.free hp) (Owns.dats r) (by simp)) fun z hz => by rw [List.mem_singleton.mp hz]; exact hp
theorem new_tup {vs : List V} {ds : List D} {Q : VK} (hs : Same F H) (r : DVs K F vs ds) (k : ∀ F' H' u rs, Gr F H [] F' H' [] → Own K F' H' u (.dat (.tup ds)) rs → (∀ z ∈ rs, H z = none) → Q u H') : ∀ p, H p = none → Q (.ref p) (upd H p (.tup vs)) := fun p hp => by
  have gn := Gr.newF (o := .tup vs) hs hp
  exact k _ _ _ [] gn (.dat (.tup (.of upd_same) (r.mono gn.ff))) (by simp)
theorem same_dat {v : V} {d : D} {Q : VK} (hs : Same F H) (r : DV K F v d) (k : ∀ F' H' u rs, Gr F H [] F' H' [] → Own K F' H' u (.dat d) rs → (∀ z ∈ rs, H z = none) → Q u H') : Q v H := k F H v [] (.refl hs) (.dat r) (by simp)
end
theorem str_eq (l : List Nat) : (⟨l.toArray⟩ : Str).length = l.length := by simp [Str.length]
theorem str_app (l m : List Nat) : (⟨l.toArray⟩ : Str) ++ ⟨m.toArray⟩ = ⟨(l ++ m).toArray⟩ := Str.ext' (by
  have := TL.tl_append ⟨l.toArray⟩ ⟨m.toArray⟩
  apply Array.toList_inj.mp
  simpa [TL.tl] using this)
/-! ### + -/
def fAdd : M → M → Option M
  | .dat (.int i), .dat (.int j) => some (.dat (.int (i + j)))
  | .dat (.str s), .dat (.str t) => if s.length + t.length ≤ 16000000 then some (.dat (.str (s ++ t))) else none
  | .dat (.tup xs), .dat (.tup ys) => if xs.length + ys.length ≤ 100000 then some (.dat (.tup (xs ++ ys))) else none
  | a, b => match litems a, litems b with
    | some xs, some ys => if xs.length + ys.length ≤ 100000 then some (.lst ((xs ++ ys).map M.dat)) else none
    | _, _ => none
abbrev rStrAdd : R2 := fun x y H Q => ∃ i j, x = .str i ∧ y = .str j ∧ i.length + j.length ≤ sizeLine ∧ Q (.str (i ++ j)) H
def rAddA (K : PySem.W.Frag) : R2 := fun x y H Q => rI0 (fun i j => .int (i + j)) x y H Q ∨ rStrAdd x y H Q ∨ rCatA K x y H Q ∨ rCat x y H Q
section
variable {X : Cx} {K : Kx}
theorem op_addA : OpR X (binaryOp .Add) (rAddA X.K) := op_add.or (op_add_str.or (op_catA.or op_cat))
theorem p_add : P2 K (rAddA K.K) fAdd := fun F H v w a b as bs t Q hs ha hb e k => by
  unfold fAdd at e
  split at e
  · cases e
    obtain rfl := ha.dat_inv.1.int_inv
    obtain rfl := hb.dat_inv.1.int_inv
    exact .inl ⟨_, _, rfl, rfl, same_dat hs (.int _) k⟩
  · split at e
    · rename_i s t hl
      cases e
      obtain rfl := ha.dat_inv.1.str_inv'
      obtain rfl := hb.dat_inv.1.str_inv'
      refine .inr (.inl ⟨_, _, rfl, rfl, ?_, ?_⟩)
      · rw [str_eq, str_eq]
        exact Nat.le_trans hl (by decide)
      · rw [str_app]
        exact same_dat hs (.str' _) k
    · cases e
  · split at e
    · rename_i xs ys hl
      cases e
      obtain ⟨p, vs, rfl, h1, h2⟩ := ha.dat_inv.1.tup_inv
      obtain ⟨q, ws, rfl, h3, h4⟩ := hb.dat_inv.1.tup_inv
      refine .inr (.inr (.inl ⟨p, q, vs, ws, rfl, rfl, SqT.mono hs h1, SqT.mono hs h3, by rw [h2.length, h4.length]; exact big5 hl, fun z => ?_, fun z y => ?_, fun z y => ?_⟩))
      · subst z
        cases h2
        exact same_dat hs hb.dat_inv.1 k
      · subst y
        cases h4
        rw [List.append_nil] at k
        exact same_dat hs ha.dat_inv.1 k
      · exact new_tup hs (h2.append h4) k
    · cases e
  · split at e
    · rename_i xs ys e1 e2
      split at e
      · rename_i hl
        cases e
        obtain ⟨p, vs, rfl, h1, h2⟩ := ha.items hs e1
        obtain ⟨q, ws, rfl, h3, h4⟩ := hb.items hs e2
        exact .inr (.inr (.inr ⟨p, q, vs, ws, rfl, rfl, h1, h3, by rw [h2.length, h4.length]; exact big5 hl, new_list hs (h2.append h4) k⟩))
      · cases e
    · cases e
/-! ### whole numbers -/
def fI (C : Int → Int → Bool) (g : Int → Int → D) : M → M → Option M
  | .dat (.int i), .dat (.int j) => if C i j = true then some (.dat (g i j)) else none
  | _, _ => none
theorem p_I {C : Int → Int → Prop} {gv : Int → Int → V} {Cb : Int → Int → Bool} {g : Int → Int → D} (hc : ∀ i j, Cb i j = true → C i j) (hg : ∀ i j F, DV K F (gv i j) (g i j)) : P2 K (rI C gv) (fI Cb g) := fun F H v w a b as bs t Q hs ha hb e k => by
  unfold fI at e
  split at e
  · split at e
    · rename_i h
      cases e
      obtain rfl := ha.dat_inv.1.int_inv
      obtain rfl := hb.dat_inv.1.int_inv
      exact ⟨_, _, rfl, rfl, hc _ _ h, same_dat hs (hg _ _ _) k⟩
    · cases e
  · cases e
def fI0 (g : Int → Int → D) : M → M → Option M
  | .dat (.int i), .dat (.int j) => some (.dat (g i j))
  | _, _ => none
theorem p_I0 {gv : Int → Int → V} {g : Int → Int → D} (hg : ∀ i j F, DV K F (gv i j) (g i j)) : P2 K (rI0 gv) (fI0 g) := fun F H v w a b as bs t Q hs ha hb e k => by
  unfold fI0 at e
  split at e
  · cases e
    obtain rfl := ha.dat_inv.1.int_inv
    obtain rfl := hb.dat_inv.1.int_inv
    exact ⟨_, _, rfl, rfl, same_dat hs (hg _ _ _) k⟩
  · cases e
def fSub := fI0 fun i j => .int (i - j)
theorem p_sub : P2 K (rI0 fun i j => .int (i - j)) fSub := p_I0 fun _ _ _ => .int _
def fDiv := fI (fun _ j => decide (0 < j ∧ j < 1073741824)) fun i j => .int (i / j)
theorem p_div : P2 K (rI CDiv fun i j => .int (i / j)) fDiv := p_I (fun i j h => (of_decide_eq_true h : 0 < j ∧ j < 1073741824)) fun _ _ _ => .int _
def fMod := fI (fun _ j => decide (0 < j)) fun i j => .int (i % j)
theorem p_mod : P2 K (rI (fun _ j => 0 < j) fun i j => .int (i % j)) fMod := p_I (fun i j h => of_decide_eq_true h) fun _ _ _ => .int _
def fPow := fI (fun i j => decide (0 ≤ j ∧ j ≤ 1000000 ∧ i.natAbs < 2 ^ 64)) fun i j => .int (i ^ j.toNat)
theorem p_pow : P2 K (rI CPow fun i j => .int (i ^ j.toNat)) fPow := p_I (fun i j h => (of_decide_eq_true h : 0 ≤ j ∧ j ≤ 1000000 ∧ i.natAbs < 2 ^ 64)) fun _ _ _ => .int _
/-- * of numbers, of a list and a number -/
def fMul : M → M → Option M
  | .dat (.int i), .dat (.int j) => if i.natAbs < 2 ^ 64 ∨ j.natAbs < 2 ^ 64 then some (.dat (.int (i * j))) else none
  | a, .dat (.int k) => (match litems a with
    | some xs => if -100000 ≤ k ∧ k ≤ 100000 ∧ xs.length * k.toNat ≤ 100000 then some (.lst ((List.replicate k.toNat xs).flatten.map M.dat)) else none
    | none => none)
  | _, _ => none
def rMulA : R2 := fun x y H Q => rI CMul (fun i j => .int (i * j)) x y H Q ∨ rRep x y H Q
theorem op_mulA : OpR X (binaryOp .Mult) rMulA := op_mul.or op_rep
theorem DVs.rep {F : Hp} {vs : List V} {ds : List D} (h : DVs K F vs ds) : ∀ n : Nat, DVs K F (List.replicate n vs).flatten (List.replicate n ds).flatten
  | 0 => .nil
  | n + 1 => by
    rw [List.replicate_succ, List.replicate_succ, List.flatten_cons, List.flatten_cons]
    exact h.append (DVs.rep h n)
theorem p_mul : P2 K rMulA fMul := fun F H v w a b as bs t Q hs ha hb e k => by
  unfold fMul at e
  split at e
  · split at e
    · rename_i h
      cases e
      obtain rfl := ha.dat_inv.1.int_inv
      obtain rfl := hb.dat_inv.1.int_inv
      refine .inl ⟨_, _, rfl, rfl, ?_, same_dat hs (.int _) k⟩
      rcases h with h | h
      · exact .inl (by omega)
      · exact .inr (by omega)
    · cases e
  · split at e
    · rename_i xs e1
      split at e
      · rename_i h
        cases e
        obtain ⟨p, vs, rfl, h1, h2⟩ := ha.items hs e1
        obtain rfl := hb.dat_inv.1.int_inv
        exact .inr ⟨p, _, vs, rfl, rfl, h1, by omega, by omega, by rw [h2.length]; exact big5 h.2.2, new_list hs (h2.rep _) k⟩
      · cases e
    · cases e
  · cases e
/-! ### == -/
mutual
def peq : D → D → Bool
  | .non, .non => true
  | .bl a, .bl b => a == b
  | .bl a, .int j => (if a then 1 else 0) == j
  | .int i, .bl b => i == (if b then 1 else 0)
  | .int i, .int j => i == j
  | .str x, .str y => x == y
  | .lst xs, .lst ys => peqs xs ys
  | .tup xs, .tup ys => peqs xs ys
  | _, _ => false
def peqs : List D → List D → Bool
  | [], [] => true
  | x :: xs, y :: ys => peq x y && peqs xs ys
  | _, _ => false
end
mutual
def toPy : D → PyData
  | .non => .none
  | .bl b => .bool b
  | .int i => .int i
  | .str s => .str ⟨s.toArray⟩
  | .lst xs => .list (toPys xs)
  | .tup xs => .tuple (toPys xs)
  | .dic _ => .none
  | .scr _ => .none
def toPys : List D → List PyData
  | [] => []
  | x :: xs => toPy x :: toPys xs
end
/-- of kinds that == tells, so deep at most -/
def okE : Nat → D → Bool
  | 0, _ => false
  | _ + 1, .non => true
  | _ + 1, .bl _ => true
  | _ + 1, .int _ => true
  | _ + 1, .str s => s.all (· < 1114112)
  | n + 1, .lst xs => xs.all (okE n)
  | n + 1, .tup xs => xs.all (okE n)
  | _ + 1, .dic _ => false
  | _ + 1, .scr _ => false
theorem okE_lay : ∀ (n : Nat) (d : D), okE n d = true → (toPy d).canLay0 = true ∧ (toPy d).depth ≤ n
  | 0, d, h => by cases d <;> simp [okE] at h
  | n + 1, .non, _ => by simp [toPy, PyData.canLay0, PyData.depth]
  | n + 1, .bl _, _ => by simp [toPy, PyData.canLay0, PyData.depth]
  | n + 1, .int _, _ => by simp [toPy, PyData.canLay0, PyData.depth]
  | n + 1, .str s, h => by
    simp only [okE, List.all_eq_true, decide_eq_true_eq] at h
    refine ⟨?_, by simp [toPy, PyData.depth]⟩
    simp only [toPy, PyData.canLay0]
    show (Array.all _ _) = true
    rw [← Array.all_toList]
    simp only [List.all_eq_true, decide_eq_true_eq]
    exact h
  | n + 1, .lst xs, h => by
    simp only [okE, List.all_eq_true] at h
    have key : ∀ ys : List D, (∀ y ∈ ys, okE n y = true) → PyData.canLayAll0 (toPys ys) = true ∧ PyData.depthAll (toPys ys) ≤ n := by
      intro ys
      induction ys with
      | nil => intro _; simp [toPys, PyData.canLayAll0, PyData.depthAll]
      | cons y ys ih =>
        intro q
        obtain ⟨h1, h2⟩ := okE_lay n y (q y List.mem_cons_self)
        obtain ⟨h3, h4⟩ := ih fun z hz => q z (List.mem_cons_of_mem _ hz)
        simp only [toPys, PyData.canLayAll0, PyData.depthAll, h1, h3, Bool.and_self, true_and]
        omega
    obtain ⟨h1, h2⟩ := key xs h
    simp only [toPy, PyData.canLay0, PyData.depth]
    exact ⟨h1, by omega⟩
  | n + 1, .tup xs, h => by
    simp only [okE, List.all_eq_true] at h
    have key : ∀ ys : List D, (∀ y ∈ ys, okE n y = true) → PyData.canLayAll0 (toPys ys) = true ∧ PyData.depthAll (toPys ys) ≤ n := by
      intro ys
      induction ys with
      | nil => intro _; simp [toPys, PyData.canLayAll0, PyData.depthAll]
      | cons y ys ih =>
        intro q
        obtain ⟨h1, h2⟩ := okE_lay n y (q y List.mem_cons_self)
        obtain ⟨h3, h4⟩ := ih fun z hz => q z (List.mem_cons_of_mem _ hz)
        simp only [toPys, PyData.canLayAll0, PyData.depthAll, h1, h3, Bool.and_self, true_and]
        omega
    obtain ⟨h1, h2⟩ := key xs h
    simp only [toPy, PyData.canLay0, PyData.depth]
    exact ⟨h1, by omega⟩
  | n + 1, .dic _, h => by simp [okE] at h
  | n + 1, .scr _, h => by simp [okE] at h
theorem okE_shaped {d : D} (h : okE 60 d = true) : SeqAt.shaped (toPy d) = true := by
  obtain ⟨h1, h2⟩ := okE_lay 60 d h
  show ((toPy d).canLay0 && decide ((toPy d).depth ≤ 64)) = true
  rw [h1, Bool.true_and]
  exact decide_eq_true (by omega)
mutual
theorem DV.dp {F : Hp} : ∀ {n : Nat} {v : V} {d : D}, DV K F v d → okE n d = true → Dp K.K F v (toPy d)
  | 0, _, d, _, h => by cases d <;> simp [okE] at h
  | n + 1, _, _, .non, _ => .non
  | n + 1, _, _, .bl b, _ => .bl b
  | n + 1, _, _, .int i, _ => .int i
  | n + 1, _, _, .str x, _ => .str x
  | n + 1, _, .tup xs, .tup h hs, e => by
    simp only [okE, List.all_eq_true] at e
    exact .tup h (DVs.dp hs e)
  | n + 1, _, .lst xs, .lst h hs, e => by
    simp only [okE, List.all_eq_true] at e
    exact .lst (.of h) (DVs.dp hs e)
  | n + 1, _, _, .dic _ _, e => by simp [okE] at e
  | n + 1, _, _, .scr _, e => by simp [okE] at e
theorem DVs.dp {F : Hp} : ∀ {n : Nat} {vs : List V} {ds : List D}, DVs K F vs ds → (∀ d ∈ ds, okE n d = true) → DpAll K.K F vs (toPys ds)
  | _, _, _, .nil, _ => .nil
  | n, _, d :: ds, .cons h hs, e => .cons (DV.dp h (e d List.mem_cons_self)) (DVs.dp hs fun z hz => e z (List.mem_cons_of_mem _ hz))
end
theorem beq_str (x y : List Nat) : ((⟨x.toArray⟩ : Str) == ⟨y.toArray⟩) = (x == y) := by
  rw [Bool.eq_iff_iff]
  simp
theorem peqs_of (h : ∀ a b : D, PyData.eqv (toPy a) (toPy b) = peq a b) : ∀ xs ys : List D, PyData.eqvAll (toPys xs) (toPys ys) = peqs xs ys
  | [], [] => by simp [toPys, PyData.eqvAll, peqs]
  | x :: xs, y :: ys => by simp only [toPys, PyData.eqvAll, peqs]; rw [h x y, peqs_of h xs ys]
  | [], _ :: _ => by simp [toPys, PyData.eqvAll, peqs]
  | _ :: _, [] => by simp [toPys, PyData.eqvAll, peqs]
theorem eqv_ok : ∀ (n : Nat) (a b : D), okE n a = true → okE n b = true → PyData.eqv (toPy a) (toPy b) = peq a b
  | 0, a, b, h, _ => by cases a <;> simp [okE] at h
  | n + 1, a, b, ha, hb => by
    have key : ∀ xs ys : List D, (∀ x ∈ xs, okE n x = true) → (∀ y ∈ ys, okE n y = true) → PyData.eqvAll (toPys xs) (toPys ys) = peqs xs ys := by
      intro xs
      induction xs with
      | nil => intro ys _ _; cases ys <;> simp [toPys, PyData.eqvAll, peqs]
      | cons x xs ih =>
        intro ys hx hy
        cases ys with
        | nil => simp [toPys, PyData.eqvAll, peqs]
        | cons y ys =>
          simp only [toPys, PyData.eqvAll, peqs]
          rw [eqv_ok n x y (hx x List.mem_cons_self) (hy y List.mem_cons_self), ih ys (fun z hz => hx z (List.mem_cons_of_mem _ hz)) fun z hz => hy z (List.mem_cons_of_mem _ hz)]
    cases a <;> cases b <;> first
      | (simp [okE] at ha; done)
      | (simp [okE] at hb; done)
      | (simp only [okE, List.all_eq_true] at ha hb; simp only [toPy, PyData.eqv, peq]; exact key _ _ ha hb)
      | (simp only [toPy, PyData.eqv, peq, beq_str]; done)
      | (simp [toPy, PyData.eqv, peq]; done)
/-- plain parts that are told by their values alone -/
def scalE : D → D → Bool
  | .non, .non => true | .non, .int _ => true | .int _, .non => true | .non, .bl _ => true | .bl _, .non => true | .non, .str _ => true | .str _, .non => true
  | .int _, .int _ => true | .bl _, .bl _ => true | .str _, .str _ => true
  | .int _, .str _ => true | .str _, .int _ => true | .bl _, .str _ => true | .str _, .bl _ => true
  | _, _ => false
def eqD (d e : D) : Option Bool := if scalE d e then some (peq d e) else if okE 60 d && okE 60 e then some (peq d e) else none
def fEq : M → M → Option M := fun a b => match a.view, b.view with
  | some d, some e => (match eqD d e with
    | some r => some (.dat (.bl r))
    | none => none)
  | _, _ => none
def fNe : M → M → Option M := fun a b => match a.view, b.view with
  | some d, some e => (match eqD d e with
    | some r => some (.dat (.bl (!r)))
    | none => none)
  | _, _ => none
def rEqA (K : PySem.W.Frag) : R2 := fun x y H Q => rEq x y H Q ∨ rEqD K x y H Q
def rNeA (K : PySem.W.Frag) : R2 := fun x y H Q => rNe x y H Q ∨ rNeD K x y H Q
theorem op_eqA (hu : X.A.units + 64 < cLine) : OpR X (compareOp .Eq) (rEqA X.K) := op_eq.or (op_eqD hu)
theorem op_neA (hu : X.A.units + 64 < cLine) : OpR X (compareOp .NotEq) (rNeA X.K) := op_ne.or (op_neD hu)
theorem scal_eq {F H : Hp} {v w : V} {d e : D} (h1 : DV K F v d) (h2 : DV K H w e) (h : scalE d e = true) : L2.scal v w = true ∧ decide (v = w) = peq d e := by
  cases h1 <;> cases h2 <;> first
    | (simp [scalE] at h; done)
    | (refine ⟨rfl, ?_⟩; simp [peq]; done)
    | (refine ⟨rfl, ?_⟩; rw [dec_str]; simp only [peq]; rw [← beq_str]; done)
    | (refine ⟨rfl, ?_⟩; rw [dec_int]; simp only [peq]; done)
    | (refine ⟨rfl, ?_⟩; rw [dec_bl]; simp only [peq]; done)
theorem p_eq : P2 K (rEqA K.K) fEq := fun F H v w a b as bs t Q hs ha hb e k => by
  unfold fEq at e
  split at e
  · rename_i d e' e1 e2
    have h1 := ha.read hs e1
    have h2 := hb.read hs e2
    split at e
    · rename_i r er
      cases e
      unfold eqD at er
      split at er
      · rename_i hsc
        cases er
        obtain ⟨q1, q2⟩ := scal_eq h1 h2 hsc
        refine .inl ⟨q1, ?_⟩
        rw [q2]
        exact same_dat hs (.bl _) k
      · split at er
        · rename_i hok
          cases er
          rw [Bool.and_eq_true] at hok
          refine .inr ⟨_, _, h1.dp hok.1, h2.dp hok.2, okE_shaped hok.1, okE_shaped hok.2, ?_⟩
          rw [eqv_ok 60 _ _ hok.1 hok.2]
          exact same_dat hs (.bl _) k
        · cases er
    · cases e
  · cases e
theorem p_ne : P2 K (rNeA K.K) fNe := fun F H v w a b as bs t Q hs ha hb e k => by
  unfold fNe at e
  split at e
  · rename_i d e' e1 e2
    have h1 := ha.read hs e1
    have h2 := hb.read hs e2
    split at e
    · rename_i r er
      cases e
      unfold eqD at er
      split at er
      · rename_i hsc
        cases er
        obtain ⟨q1, q2⟩ := scal_eq h1 h2 hsc
        refine .inl ⟨q1, ?_⟩
        rw [q2]
        exact same_dat hs (.bl _) k
      · split at er
        · rename_i hok
          cases er
          rw [Bool.and_eq_true] at hok
          refine .inr ⟨_, _, h1.dp hok.1, h2.dp hok.2, okE_shaped hok.1, okE_shaped hok.2, ?_⟩
          rw [eqv_ok 60 _ _ hok.1 hok.2]
          exact same_dat hs (.bl _) k
        · cases er
    · cases e
  · cases e
end
end Y
/-! Y: more operations: order, in, subscripts, slices, built-in functions, methods of texts, what is walked. -/
namespace Y
open PySem L2
variable [TabC]
section
variable {X : Cx} {K : Kx} {E : XK} {kp : Nat → Bool} {F F' F1 F2 H H' H1 H2 : Hp} {as as' as1 as2 bs : List Addr} {σ σ' σ1 : L2.St} {ρ : Env} {te tb tc : TE} {ta : TA} {ga gb gc : Env → Option M} {xa xb : G D}
/-! ### order -/
def fOrd (fi : Int → Int → Bool) (fs : List Nat → List Nat → Bool) : M → M → Option M
  | .dat (.int i), .dat (.int j) => some (.dat (.bl (fi i j)))
  | .dat (.str s), .dat (.str t) => some (.dat (.bl (fs s t)))
  | _, _ => none
def rStr2 (f : Str → Str → Bool) : R2 := fun x y H Q => ∃ i j, x = .str i ∧ y = .str j ∧ Q (.bl (f i j)) H
def rOrd (fi : Int → Int → Bool) (fs : Str → Str → Bool) : R2 := fun x y H Q => rI0 (fun i j => .bl (fi i j)) x y H Q ∨ rStr2 fs x y H Q
theorem p_ord {fi : Int → Int → Bool} {fs : List Nat → List Nat → Bool} : P2 K (rOrd fi fun i j => fs i.cps.toList j.cps.toList) (fOrd fi fs) := fun F H v w a b as bs t Q hs ha hb e k => by
  unfold fOrd at e
  split at e
  · cases e
    obtain rfl := ha.dat_inv.1.int_inv
    obtain rfl := hb.dat_inv.1.int_inv
    exact .inl ⟨_, _, rfl, rfl, same_dat hs (.bl _) k⟩
  · cases e
    obtain ⟨x, rfl, rfl⟩ := ha.dat_inv.1.str_inv
    obtain ⟨y, rfl, rfl⟩ := hb.dat_inv.1.str_inv
    exact .inr ⟨_, _, rfl, rfl, same_dat hs (.bl _) k⟩
  · cases e
abbrev sLt (s t : List Nat) : Bool := decide (s < t)
abbrev sLe (s t : List Nat) : Bool := !decide (t < s)
abbrev sGt (s t : List Nat) : Bool := decide (t < s)
abbrev sGe (s t : List Nat) : Bool := !decide (s < t)
abbrev iLt (i j : Int) : Bool := decide (i < j)
abbrev iLe (i j : Int) : Bool := decide (i ≤ j)
abbrev iGt (i j : Int) : Bool := decide (j < i)
abbrev iGe (i j : Int) : Bool := decide (j ≤ i)
theorem op_ltA : OpR X (compareOp .Lt) (rOrd iLt fun i j => sLt i.cps.toList j.cps.toList) := op_lt.or op_lt_str
theorem op_leA : OpR X (compareOp .LtE) (rOrd iLe fun i j => sLe i.cps.toList j.cps.toList) := op_le.or op_le_str
theorem op_gtA : OpR X (compareOp .Gt) (rOrd iGt fun i j => sGt i.cps.toList j.cps.toList) := op_gt.or op_gt_str
theorem op_geA : OpR X (compareOp .GtE) (rOrd iGe fun i j => sGe i.cps.toList j.cps.toList) := op_ge.or op_ge_str
abbrev fLt := fOrd iLt sLt
abbrev fLe := fOrd iLe sLe
abbrev fGt := fOrd iGt sGt
abbrev fGe := fOrd iGe sGe
theorem p_lt : P2 K (rOrd iLt fun i j => sLt i.cps.toList j.cps.toList) fLt := p_ord
theorem p_le : P2 K (rOrd iLe fun i j => sLe i.cps.toList j.cps.toList) fLe := p_ord
theorem p_gt : P2 K (rOrd iGt fun i j => sGt i.cps.toList j.cps.toList) fGt := p_ord
theorem p_ge : P2 K (rOrd iGe fun i j => sGe i.cps.toList j.cps.toList) fGe := p_ord
/-- a op b op' c -/
def nChain (f f' : M → M → Option M) (ga gb gc : Env → Option M) : Env → Option M := fun ρ => match ga ρ, gb ρ with
  | some a, some b => (match f a b with
    | some (.dat (.bl true)) => (match gc ρ with
      | some c => f' b c
      | none => none)
    | some (.dat (.bl false)) => some (.dat (.bl false))
    | _ => none)
  | _, _ => none
theorem en_chain {r r' : R2} {f f' : M → M → Option M} (p : P2 K r f) (p' : P2 K r' f') (ha : EP K te ga) (hb : EP K tb gb) (hc : EP K tc gc) : EN K (tChain r r' te tb tc) (nChain f f' ga gb gc) := fun F H σ ρ as m Q hs so e k => by
  unfold nChain at e
  split at e
  case h_2 => cases e
  rename_i a b e1 e2
  refine ha F H σ ρ as a _ hs so e1 fun F1 H1 v rs g1 o1 => ?_
  refine hb F1 H1 σ ρ as b _ g1.fh (so.grow g1) e2 fun F2 H2 w ss g2 o2 => ?_
  split at e
  · rename_i ef
    refine p F2 H2 v w a b rs ss _ _ g2.fh (o1.grow g2) o2 ef fun F3 H3 u ts g3 o3 n3 => ⟨true, o3.dat_inv.1.bl_inv, ?_⟩
    show tc σ H3 _
    split at e
    · rename_i c e3
      refine hc F3 H3 σ ρ as c _ g3.fh (so.grow ((g1.trans g2).trans g3)) e3 fun F4 H4 x us g4 o4 => ?_
      have g := ((g1.trans g2).trans g3).trans g4
      exact p' F4 H4 w x b c ss us m Q g4.fh (o2.grow (g3.trans g4)) o4 e fun F5 H5 y vs g5 o5 n5 => k F5 H5 y vs (g.trans g5) o5 fun z hz => back_none g (n5 z hz)
    · cases e
  · rename_i ef
    cases e
    refine p F2 H2 v w a b rs ss _ _ g2.fh (o1.grow g2) o2 ef fun F3 H3 u ts g3 o3 n3 => ⟨false, o3.dat_inv.1.bl_inv, ?_⟩
    exact k F3 H3 _ [] ((g1.trans g2).trans g3) (.dat (.bl false)) (by simp)
  · cases e
/-! ### in -/
def subS (e s : List Nat) : Bool := (List.range (s.length + 1)).any fun i => e.isPrefixOf (s.drop i)
theorem isPrefixOf_take (e l : List Nat) : e.isPrefixOf l = (l.take e.length == e) := by
  induction e generalizing l with
  | nil => simp
  | cons a e ih =>
    cases l with
    | nil => simp
    | cons b l =>
      rw [List.isPrefixOf_cons₂, ih, List.length_cons, List.take_succ_cons]
      rw [Bool.eq_iff_iff]
      simp only [Bool.and_eq_true, beq_iff_eq, List.cons.injEq]
      constructor
      · rintro ⟨rfl, h⟩; exact ⟨rfl, h⟩
      · rintro ⟨rfl, h⟩; exact ⟨rfl, h⟩
theorem found_sub (x y : Str) : (!(Builtin.Str.occurrences x y 0 x.length 1).isEmpty) = subS y.cps.toList x.cps.toList := by
  rw [Bool.eq_iff_iff, StrLaws.found_iff]
  unfold subS
  rw [List.any_eq_true]
  have hx : x.length = x.cps.toList.length := by simp [Str.length]
  have hy : y.length = y.cps.toList.length := by simp [Str.length]
  constructor
  · rintro ⟨i, h1, h2⟩
    refine ⟨i, List.mem_range.mpr (by omega), ?_⟩
    rw [isPrefixOf_take, ← hy, ← StrLaws.subAt_eq]
    exact h2
  · rintro ⟨i, h1, h2⟩
    rw [isPrefixOf_take, ← hy, ← StrLaws.subAt_eq] at h2
    refine ⟨i, ?_, h2⟩
    rw [StrLaws.subAt_eq, hy] at h2
    have e := congrArg List.length (eq_of_beq h2)
    rw [List.length_take, List.length_drop] at e
    have := List.mem_range.mp h1
    omega
def inD (d : D) (ds : List D) : Option Bool := if okE 60 d && ds.all (okE 59) then some (ds.any fun z => peq z d) else none
def fInB : M → M → Option Bool := fun a b => match a.view, b.view with
  | some (.str s), some (.str t) => some (subS s t)
  | some d, some (.lst ds) => inD d ds
  | _, _ => none
def fIn : M → M → Option M := fun a b => match fInB a b with
  | some r => some (.dat (.bl r))
  | none => none
def fNotIn : M → M → Option M := fun a b => match fInB a b with
  | some r => some (.dat (.bl (!r)))
  | none => none
def rInA (K : PySem.W.Frag) : R2 := fun x y H Q => (∃ i j, x = .str i ∧ y = .str j ∧ Q (.bl (!(Builtin.Str.occurrences j i 0 j.length 1).isEmpty)) H) ∨ rInD K x y H Q
def rNotInA (K : PySem.W.Frag) : R2 := fun x y H Q => (∃ i j, x = .str i ∧ y = .str j ∧ Q (.bl (!(!(Builtin.Str.occurrences j i 0 j.length 1).isEmpty))) H) ∨ rNotInD K x y H Q
theorem op_inA (hu : X.A.units + 65 < cLine) : OpR X (compareOp .In) (rInA X.K) := op_in_str.or (op_inD hu)
theorem op_notInA (hu : X.A.units + 65 < cLine) : OpR X (compareOp .NotIn) (rNotInA X.K) := op_notIn_str.or (op_notInD hu)
theorem toPys_map : ∀ ds : List D, toPys ds = ds.map toPy
  | [] => rfl
  | d :: ds => by simp only [toPys, List.map_cons, toPys_map ds]
theorem any_eqv {d : D} (hd : okE 60 d = true) : ∀ {ds : List D}, (∀ z ∈ ds, okE 59 z = true) → (toPys ds).any (fun z => PyData.eqv z (toPy d)) = ds.any fun z => peq z d := fun {ds} h => by
  rw [toPys_map, List.any_map]
  apply Bool.eq_iff_iff.mpr
  simp only [List.any_eq_true, Function.comp]
  have okm : ∀ {n : Nat} {d : D}, okE n d = true → okE (n + 1) d = true := by
    intro n
    induction n with
    | zero => intro d h; cases d <;> simp [okE] at h
    | succ n ih =>
      intro d h
      cases d <;> simp only [okE, List.all_eq_true] at h ⊢ <;> first | trivial | exact h | (intro x hx; exact ih (h x hx)) | (cases h)
  constructor
  · rintro ⟨z, hz, e⟩
    exact ⟨z, hz, by rw [eqv_ok 60 z d (okm (h z hz)) hd] at e; exact e⟩
  · rintro ⟨z, hz, e⟩
    exact ⟨z, hz, by rw [eqv_ok 60 z d (okm (h z hz)) hd]; exact e⟩
theorem p_inB {a b : M} {v w : V} {r : Bool} (hs : Same F H) (ha : Own K F H v a as) (hb : Own K F H w b bs) (e : fInB a b = some r) :
    (∃ i j, v = .str i ∧ w = .str j ∧ (!(Builtin.Str.occurrences j i 0 j.length 1).isEmpty) = r) ∨ ∃ d ds, Dp K.K H v d ∧ Dp K.K H w (.list ds) ∧ SeqAt.shaped d = true ∧ SeqAt.shaped (.list ds) = true ∧ (ds.any fun z => PyData.eqv z d) = r := by
  unfold fInB at e
  split at e
  · rename_i s t e1 e2
    cases e
    obtain ⟨x, rfl, rfl⟩ := (ha.read hs e1).str_inv
    obtain ⟨y, rfl, rfl⟩ := (hb.read hs e2).str_inv
    exact .inl ⟨x, y, rfl, rfl, found_sub y x⟩
  · rename_i d ds e1 e2
    unfold inD at e
    split at e
    · rename_i hok
      cases e
      rw [Bool.and_eq_true] at hok
      have h2 : okE 60 (.lst ds) = true := hok.2
      have d1 := (ha.read hs e1).dp hok.1
      have d2 := (hb.read hs e2).dp h2
      simp only [toPy] at d2
      have sh := okE_shaped h2
      simp only [toPy] at sh
      exact .inr ⟨_, _, d1, d2, okE_shaped hok.1, sh, any_eqv hok.1 (List.all_eq_true.mp hok.2)⟩
    · cases e
  · cases e
theorem p_in : P2 K (rInA K.K) fIn := fun F H v w a b as bs t Q hs ha hb e k => by
  unfold fIn at e
  split at e
  · rename_i r er
    cases e
    rcases p_inB hs ha hb er with ⟨i, j, rfl, rfl, q⟩ | ⟨d, ds, h1, h2, h3, h4, q⟩
    · exact .inl ⟨i, j, rfl, rfl, by rw [q]; exact same_dat hs (.bl _) k⟩
    · exact .inr ⟨d, ds, h1, h2, h3, h4, by rw [q]; exact same_dat hs (.bl _) k⟩
  · cases e
theorem p_notIn : P2 K (rNotInA K.K) fNotIn := fun F H v w a b as bs t Q hs ha hb e k => by
  unfold fNotIn at e
  split at e
  · rename_i r er
    cases e
    rcases p_inB hs ha hb er with ⟨i, j, rfl, rfl, q⟩ | ⟨d, ds, h1, h2, h3, h4, q⟩
    · exact .inl ⟨i, j, rfl, rfl, by rw [q]; exact same_dat hs (.bl _) k⟩
    · exact .inr ⟨d, ds, h1, h2, h3, h4, by rw [q]; exact same_dat hs (.bl _) k⟩
  · cases e
/-! ### is None -/
def isNon : M → Bool
  | .dat .non => true
  | _ => false
def fIsN : M → M → Option M := fun a b => match b with
  | .dat .non => some (.dat (.bl (isNon a)))
  | _ => none
def fNotN : M → M → Option M := fun a b => match b with
  | .dat .non => some (.dat (.bl (!isNon a)))
  | _ => none
theorem isNon_ok {v : V} {a : M} (h : Own K F H v a as) : decide (v = .non) = isNon a := by
  cases h with
  | dat h => cases h <;> simp [isNon]
  | lst _ _ _ _ => simp [isNon]
  | dic _ _ _ => simp [isNon]
  | obj _ _ _ _ _ _ _ _ _ => simp [isNon]
abbrev rIsN : R2 := fun x y H Q => y = .non ∧ Q (.bl (decide (x = .non))) H
abbrev rNotN : R2 := fun x y H Q => y = .non ∧ Q (.bl (!decide (x = .non))) H
theorem p_isN : P2 K rIsN fIsN := fun F H v w a b as bs t Q hs ha hb e k => by
  unfold fIsN at e
  split at e
  · cases e
    refine ⟨hb.dat_inv.1.non_inv, ?_⟩
    rw [isNon_ok ha]
    exact same_dat hs (.bl _) k
  · cases e
theorem p_notN : P2 K rNotN fNotN := fun F H v w a b as bs t Q hs ha hb e k => by
  unfold fNotN at e
  split at e
  · cases e
    refine ⟨hb.dat_inv.1.non_inv, ?_⟩
    rw [isNon_ok ha]
    exact same_dat hs (.bl _) k
  · cases e
/-! ### subscripts -/
def fIdx : M → M → Option M
  | .dat (.tup ds), .dat (.int i) => (atI ds i).map M.dat
  | .dat (.str s), .dat (.int i) => if s.length ≤ 16000000 then (atI s i).map fun c => M.dat (.str [c]) else none
  | .dat (.scr ns), .dat (.int i) => (atI ns i).map fun z => M.dat (.int z)
  | .dat (.lst ds), .dat (.int i) => (atI ds i).map M.dat
  | .lst ms, .dat (.int i) => (match atI ms i with
    | some (.dat d) => some (.dat d)
    | _ => none)
  | _, _ => none
theorem atI_rel {α β : Type} {R : α → β → Prop} {xs : List α} {ys : List β} (hl : xs.length = ys.length) (h : ∀ (j : Nat) y, ys[j]? = some y → ∃ x, xs[j]? = some x ∧ R x y) {i : Int} {y : β} (e : atI ys i = some y) : ∃ x, atI xs i = some x ∧ R x y := by
  unfold atI at e ⊢
  rw [hl]
  cases q : ixN ys.length i with
  | none => rw [q] at e; cases e
  | some j =>
    rw [q] at e
    exact h j y e
theorem Owns.get : ∀ {vs : List V} {ms : List M} {as : List Addr}, Owns K F H vs ms as → ∀ {i : Nat} {m : M}, ms[i]? = some m → ∃ v, vs[i]? = some v ∧ ∃ bs, Own K F H v m bs
  | _, _, _, .nil, i, m, e => by simp at e
  | _, _, _, .cons (v := v) h hs n, 0, m, e => by
    simp at e
    subst e
    exact ⟨v, rfl, _, h⟩
  | _, _, _, .cons h hs n, i + 1, m, e => by
    obtain ⟨v, h1, h2⟩ := Owns.get hs (i := i) (m := m) (by simpa using e)
    exact ⟨v, by simpa using h1, h2⟩
theorem p_idx : P2 K (rIx K.K) fIdx := fun F H v w a b as bs t Q hs ha hb e k => by
  unfold fIdx at e
  split at e
  · rename_i ds i
    obtain rfl := hb.dat_inv.1.int_inv
    obtain ⟨p, xs, rfl, h1, h2⟩ := ha.dat_inv.1.tup_inv
    cases q : atI ds i with
    | none => rw [q] at e; cases e
    | some d =>
      rw [q] at e
      cases e
      obtain ⟨x, h3, h4⟩ := atI_rel (R := fun x y => DV K F x y) h2.length (fun j y ej => h2.get ej) q
      exact .inr (.inl ⟨p, xs, i, x, rfl, rfl, SqT.mono hs h1, h3, same_dat hs h4 k⟩)
  · rename_i s i
    obtain rfl := hb.dat_inv.1.int_inv
    obtain ⟨x, rfl, rfl⟩ := ha.dat_inv.1.str_inv
    split at e
    · rename_i hl
      cases q : atI x.cps.toList i with
      | none => rw [q] at e; cases e
      | some c =>
        rw [q] at e
        cases e
        refine .inr (.inr ⟨x, i, c, rfl, rfl, ?_, q, same_dat hs (.str' [c]) k⟩)
        have : x.length = x.cps.toList.length := by simp [Str.length]
        rw [this]
        exact Nat.le_trans hl (by decide)
    · cases e
  · rename_i ns i
    obtain rfl := hb.dat_inv.1.int_inv
    obtain ⟨p, rfl, h1⟩ := ha.dat_inv.1.scr_inv
    cases q : atI ns i with
    | none => rw [q] at e; cases e
    | some z =>
      rw [q] at e
      cases e
      obtain ⟨x, h3, h4⟩ := atI_rel (R := fun (x : V) (z : Int) => x = .int z) (xs := ns.map V.int) (by simp) (fun j y ej => ⟨.int y, by simp [ej], rfl⟩) q
      subst h4
      exact .inl ⟨p, _, i, _, rfl, rfl, SqL.mono hs h1, h3, same_dat hs (.int _) k⟩
  · rename_i ds i
    obtain rfl := hb.dat_inv.1.int_inv
    obtain ⟨p, xs, rfl, h1, h2⟩ := ha.dat_inv.1.lst_inv
    cases q : atI ds i with
    | none => rw [q] at e; cases e
    | some d =>
      rw [q] at e
      cases e
      obtain ⟨x, h3, h4⟩ := atI_rel (R := fun x y => DV K F x y) h2.length (fun j y ej => h2.get ej) q
      exact .inl ⟨p, xs, i, x, rfl, rfl, .of (hs _ _ h1), h3, same_dat hs h4 k⟩
  · rename_i ms i
    obtain rfl := hb.dat_inv.1.int_inv
    split at e
    · rename_i d q
      cases e
      cases ha with
      | lst ha' fa hv n =>
        obtain ⟨x, h3, bs', h4⟩ := atI_rel (R := fun x y => ∃ bs, Own K F H x y bs) hv.len (fun j y ej => hv.get ej) q
        exact .inl ⟨_, _, i, x, rfl, rfl, .of ha', h3, same_dat hs h4.dat_inv.1 k⟩
    · cases e
  · cases e
/-! ### slices -/
def cutD {α : Type} (xs : List α) (lo hi : Option Int) : List α := (xs.drop (HT.sIx xs.length 0 lo)).take (HT.sIx xs.length xs.length hi - HT.sIx xs.length 0 lo)
theorem DVs.cut {vs : List V} {ds : List D} (h : DVs K F vs ds) (lo hi : Option Int) : DVs K F (cutV vs lo hi) (cutD ds lo hi) := by
  unfold cutV cutD
  rw [h.length]
  exact (h.drop _).take _
def fSl : M → Option Int → Option Int → Option M
  | .dat (.str s), lo, hi => if s.length ≤ 16000000 then some (.dat (.str (cutD s lo hi))) else none
  | .dat (.tup ds), lo, hi => some (.dat (.tup (cutD ds lo hi)))
  | m, lo, hi => match litems m with
    | some ds => some (.lst ((cutD ds lo hi).map M.dat))
    | none => none
def rSlX (K : PySem.W.Frag) : V → Option Int → Option Int → Hp → VK → Prop := fun x lo hi H Q => rSlS x lo hi H Q ∨ rSlA K x lo hi H Q ∨ rSlL K x lo hi H Q
theorem sl_any : SlR X (rSlX X.K) := sl_str.or (sl_tupA.or sl_list)
theorem p_sl : PS3 K (rSlX K.K) fSl := fun F H v m as lo hi t Q hs ha e k => by
  unfold fSl at e
  split at e
  · rename_i s
    split at e
    · rename_i hl
      cases e
      obtain ⟨x, rfl, rfl⟩ := ha.dat_inv.1.str_inv
      have hx : x.length = x.cps.toList.length := by simp [Str.length]
      refine .inl ⟨x, rfl, by rw [hx]; exact Nat.le_trans hl (by decide), ?_⟩
      have ec : cutS x lo hi = ⟨(cutD x.cps.toList lo hi).toArray⟩ := by unfold cutS cutD; rw [hx]
      rw [ec]
      exact same_dat hs (.str' _) k
    · cases e
  · rename_i ds
    cases e
    obtain ⟨p, xs, rfl, h1, h2⟩ := ha.dat_inv.1.tup_inv
    refine .inr (.inl ⟨p, xs, rfl, SqT.mono hs h1, fun hw => ?_, fun hw => new_tup hs (h2.cut lo hi) k⟩)
    have ec : cutD ds lo hi = ds := by
      unfold cutD
      rw [← h2.length, hw.1, hw.2, List.drop_zero, Nat.sub_zero, List.take_of_length_le (by rw [h2.length]; exact Nat.le_refl _)]
    rw [ec] at k
    exact same_dat hs ha.dat_inv.1 k
  · split at e
    · rename_i ds e1
      cases e
      obtain ⟨p, vs, rfl, h1, h2⟩ := ha.items hs e1
      exact .inr (.inr ⟨p, vs, rfl, .of h1, new_list hs (h2.cut lo hi) k⟩)
    · cases e
/-- l[::-1] -/
def fRev : M → Option M := fun m => match litems m with
  | some ds => some (.lst (ds.reverse.map M.dat))
  | none => none
theorem p_rev : P1 K (fun x H1 Q => ∃ a xs, x = .ref a ∧ SqL K.K H1 a xs ∧ ∀ p, H1 p = none → Q (.ref p) (upd H1 p (.lst xs.reverse))) fRev := fun F H v a as t Q hs ha e k => by
  unfold fRev at e
  split at e
  · rename_i ds e1
    cases e
    obtain ⟨p, vs, rfl, h1, h2⟩ := ha.items hs e1
    exact ⟨p, vs, rfl, .of h1, new_list hs h2.reverse k⟩
  · cases e
theorem en_rev (h : EP K te ga) : EN K (tRevL K.K te) (n1 fRev ga) := en_un p_rev h
theorem em_rev (h : EX K E kp te xa) : EM K E kp (tRevL K.K te) (x1 fRev xa) := em_un p_rev h
def fNeg : M → Option M
  | .dat (.int i) => some (.dat (.int (-i)))
  | _ => none
theorem p_neg : P1 K (rU fun i => .int (-i)) fNeg := fun F H v a as t Q hs ha e k => by
  unfold fNeg at e
  split at e
  · cases e
    obtain rfl := ha.dat_inv.1.int_inv
    exact ⟨_, rfl, same_dat hs (.int _) k⟩
  · cases e
/-! ### built-in functions -/
def fLen : List M → Option M
  | [.dat (.str s)] => if s.length ≤ 16000000 then some (.dat (.int s.length)) else none
  | [.dat (.tup ds)] => some (.dat (.int ds.length))
  | [.dat (.lst ds)] => some (.dat (.int ds.length))
  | [.dat (.scr ns)] => some (.dat (.int ns.length))
  | [.lst ms] => some (.dat (.int ms.length))
  | _ => none
def rLenA (K : PySem.W.Frag) : List V → Hp → VK → Prop := fun xs H Q => ∃ x n, xs = [x] ∧ LenV K x H n ∧ Q (.int n) H
theorem Ois.one {vs : List V} {m : M} (h : Ois K F H vs [m]) : ∃ v as, vs = [v] ∧ Own K F H v m as := by
  cases h with
  | cons h hs => cases hs; exact ⟨_, _, rfl, h⟩
theorem Ois.two {vs : List V} {m m' : M} (h : Ois K F H vs [m, m']) : ∃ v w as bs, vs = [v, w] ∧ Own K F H v m as ∧ Own K F H w m' bs := by
  cases h with
  | cons h hs => cases hs with | cons h' hs' => cases hs'; exact ⟨_, _, _, _, rfl, h, h'⟩
theorem p_len : PL K (rLenA K.K) fLen := fun F H vs ms t Q hs ho e k => by
  unfold fLen at e
  split at e
  · rename_i s
    split at e
    · rename_i hl
      cases e
      obtain ⟨v, bs, rfl, ha⟩ := ho.one
      obtain ⟨x, rfl, rfl⟩ := ha.dat_inv.1.str_inv
      have hx : x.length = x.cps.toList.length := by simp [Str.length]
      refine ⟨_, _, rfl, ⟨by rw [hx]; exact Nat.le_trans hl (by decide), rfl⟩, ?_⟩
      rw [hx]
      exact same_dat hs (.int _) k
    · cases e
  · cases e
    obtain ⟨v, bs, rfl, ha⟩ := ho.one
    obtain ⟨p, xs, rfl, h1, h2⟩ := ha.dat_inv.1.tup_inv
    refine ⟨_, _, rfl, .inr ⟨xs, SqT.mono hs h1, rfl⟩, ?_⟩
    rw [h2.length]
    exact same_dat hs (.int _) k
  · cases e
    obtain ⟨v, bs, rfl, ha⟩ := ho.one
    obtain ⟨p, xs, rfl, h1, h2⟩ := ha.dat_inv.1.lst_inv
    refine ⟨_, _, rfl, .inl ⟨xs, .of (hs _ _ h1), rfl⟩, ?_⟩
    rw [h2.length]
    exact same_dat hs (.int _) k
  · cases e
    obtain ⟨v, bs, rfl, ha⟩ := ho.one
    obtain ⟨p, rfl, h1⟩ := ha.dat_inv.1.scr_inv
    refine ⟨_, _, rfl, .inl ⟨_, SqL.mono hs h1, rfl⟩, ?_⟩
    rw [List.length_map]
    exact same_dat hs (.int _) k
  · cases e
    obtain ⟨v, bs, rfl, ha⟩ := ho.one
    cases ha with
    | lst ha' fa hv n =>
      refine ⟨_, _, rfl, .inl ⟨_, .of ha', rfl⟩, ?_⟩
      rw [hv.len]
      exact same_dat hs (.int _) k
  · cases e
def fMin2 : List M → Option M
  | [.dat (.int i), .dat (.int j)] => some (.dat (.int (if j < i then j else i)))
  | _ => none
def fMax2 : List M → Option M
  | [.dat (.int i), .dat (.int j)] => some (.dat (.int (if j > i then j else i)))
  | _ => none
theorem p_min2 : PL K (fun xs H Q => ∃ i j, xs = [.int i, .int j] ∧ Q (.int (if j < i then j else i)) H) fMin2 := fun F H vs ms t Q hs ho e k => by
  unfold fMin2 at e
  split at e
  · cases e
    obtain ⟨v, w, as, bs, rfl, ha, hb⟩ := ho.two
    obtain rfl := ha.dat_inv.1.int_inv
    obtain rfl := hb.dat_inv.1.int_inv
    exact ⟨_, _, rfl, same_dat hs (.int _) k⟩
  · cases e
theorem p_max2 : PL K (fun xs H Q => ∃ i j, xs = [.int i, .int j] ∧ Q (.int (if j > i then j else i)) H) fMax2 := fun F H vs ms t Q hs ho e k => by
  unfold fMax2 at e
  split at e
  · cases e
    obtain ⟨v, w, as, bs, rfl, ha, hb⟩ := ho.two
    obtain rfl := ha.dat_inv.1.int_inv
    obtain rfl := hb.dat_inv.1.int_inv
    exact ⟨_, _, rfl, same_dat hs (.int _) k⟩
  · cases e
def intL : List D → Option (List Int)
  | [] => some []
  | .int i :: ds => (match intL ds with
    | some ns => some (i :: ns)
    | none => none)
  | _ => none
theorem ints_vals : ∀ {vs : List V} {ds : List D} {ns : List Int}, DVs K F vs ds → intL ds = some ns → vs = ns.map V.int
  | _, _, ns, .nil, e => by cases e; rfl
  | _, d :: ds, ns, .cons h hs, e => by
    cases h <;> simp only [intL] at e <;> try cases e
    split at e
    · rename_i ns' e'
      cases e
      rw [ints_vals hs e']
      rfl
    · cases e
theorem ints_map : ∀ ns : List Int, intL (ns.map D.int) = some ns
  | [] => rfl
  | n :: ns => by
    show (match intL (ns.map D.int) with
    | some ns => some (n :: ns)
    | none => none) = _
    rw [ints_map ns]
def fSum : List M → Option M
  | [m] => (match litems m with
    | some ds => (match intL ds with
      | some ns => some (.dat (.int ns.sum))
      | none => none)
    | none => none)
  | _ => none
theorem p_sum : PL K (rSum K.K) fSum := fun F H vs ms t Q hs ho e k => by
  unfold fSum at e
  split at e
  · split at e
    · rename_i ds e1
      split at e
      · rename_i ns e2
        cases e
        obtain ⟨v, bs, rfl, ha⟩ := ho.one
        obtain ⟨p, xs, rfl, h1, h2⟩ := ha.items hs e1
        obtain rfl := ints_vals h2 e2
        exact ⟨p, ns, rfl, .of h1, same_dat hs (.int _) k⟩
      · cases e
    · cases e
  · cases e
def fInt : List M → Option M
  | [.dat (.int i)] => some (.dat (.int i))
  | [.dat (.bl b)] => some (.dat (.int (if b then 1 else 0)))
  | _ => none
abbrev rInt1 : List V → Hp → VK → Prop := fun xs H Q => (∃ i, xs = [.int i] ∧ Q (.int i) H) ∨ ∃ k, xs = [.bl k] ∧ Q (.int (if k then 1 else 0)) H
theorem p_int : PL K rInt1 fInt := fun F H vs ms t Q hs ho e k => by
  unfold fInt at e
  split at e
  · cases e
    obtain ⟨v, bs, rfl, ha⟩ := ho.one
    obtain rfl := ha.dat_inv.1.int_inv
    exact .inl ⟨_, rfl, same_dat hs (.int _) k⟩
  · cases e
    obtain ⟨v, bs, rfl, ha⟩ := ho.one
    obtain rfl := ha.dat_inv.1.bl_inv
    exact .inr ⟨_, rfl, same_dat hs (.int _) k⟩
  · cases e
def fList : List M → Option M
  | [.dat (.tup ds)] => some (.lst (ds.map M.dat))
  | [m] => (match litems m with
    | some ds => some (.lst (ds.map M.dat))
    | none => none)
  | _ => none
theorem p_list : PL K (fun xs H Q => ∃ p ys, xs = [.ref p] ∧ (SqL K.K H p ys ∨ SqT K.K H p ys) ∧ ∀ l, H l = none → Q (.ref l) (upd H l (.lst ys))) fList := fun F H vs ms t Q hs ho e k => by
  unfold fList at e
  split at e
  · cases e
    obtain ⟨v, bs, rfl, ha⟩ := ho.one
    obtain ⟨p, xs, rfl, h1, h2⟩ := ha.dat_inv.1.tup_inv
    exact ⟨p, xs, rfl, .inr (SqT.mono hs h1), new_list hs h2 k⟩
  · split at e
    · rename_i ds e1
      cases e
      obtain ⟨v, bs, rfl, ha⟩ := ho.one
      obtain ⟨p, xs, rfl, h1, h2⟩ := ha.items hs e1
      exact ⟨p, xs, rfl, .inl (.of h1), new_list hs h2 k⟩
    · cases e
  · cases e
def fTuple : List M → Option M
  | [.dat (.tup ds)] => some (.dat (.tup ds))
  | [m] => (match litems m with
    | some ds => some (.dat (.tup ds))
    | none => none)
  | _ => none
theorem p_tuple : PL K (fun xs H Q => ∃ p ys, xs = [.ref p] ∧ ((SqL K.K H p ys ∧ ∀ l, H l = none → Q (.ref l) (upd H l (.tup ys))) ∨ (SqT K.K H p ys ∧ Q (.ref p) H))) fTuple := fun F H vs ms t Q hs ho e k => by
  unfold fTuple at e
  split at e
  · cases e
    obtain ⟨v, bs, rfl, ha⟩ := ho.one
    obtain ⟨p, xs, rfl, h1, h2⟩ := ha.dat_inv.1.tup_inv
    exact ⟨p, xs, rfl, .inr ⟨SqT.mono hs h1, same_dat hs ha.dat_inv.1 k⟩⟩
  · split at e
    · rename_i ds e1
      cases e
      obtain ⟨v, bs, rfl, ha⟩ := ho.one
      obtain ⟨p, xs, rfl, h1, h2⟩ := ha.items hs e1
      exact ⟨p, xs, rfl, .inl ⟨.of h1, new_tup hs h2 k⟩⟩
    · cases e
  · cases e
/-! ### methods of texts -/
def SM (K : Kx) (r : V → List V → Hp → VK → Prop) (f : List Nat → List M → Option M) : Prop :=
  ∀ F H x vs ms t Q, Same F H → Ois K F H vs ms → f x.cps.toList ms = some t → (∀ F2 H2 u rs, Gr F H [] F2 H2 [] → Own K F2 H2 u t rs → (∀ z ∈ rs, H z = none) → Q u H2) → r (.str x) vs H Q
def fStrM (f : List Nat → List M → Option M) : M → List M → Option M
  | .dat (.str s), ms => f s ms
  | _, _ => none
theorem p_strM {r : V → List V → Hp → VK → Prop} {f : List Nat → List M → Option M} (h : SM K r f) : PB K "str" r (fStrM f) := fun F H v m as hs ho hne => by
  obtain ⟨ms0, hne⟩ := hne
  unfold fStrM at hne
  split at hne
  · rename_i s
    obtain ⟨x, rfl, rfl⟩ := ho.dat_inv.1.str_inv
    exact ⟨rfl, fun F' H' vs ms t Q g o1 oi e k => h F' H' x vs ms t Q g.fh oi e k⟩
  · exact absurd rfl hne
def nM1 (f : List Nat → List M → Option M) (g ga : Env → Option M) : Env → Option M := fun ρ => match g ρ, ga ρ with
  | some (.dat (.str s)), some m => f s [m]
  | _, _ => none
theorem en_m1 {r : V → List V → Hp → VK → Prop} {f : List Nat → List M → Option M} (p : SM K r f) (ho : EP K te ga) (he : EP K tb gb) : EN K (tM1 r te tb) (nM1 f ga gb) := fun F H σ ρ as m Q hs so e k => by
  unfold nM1 at e
  split at e
  · rename_i s m0 e1 e2
    refine ho F H σ ρ as _ _ hs so e1 fun F1 H1 v rs g1 o1 => ?_
    obtain ⟨x, rfl, rfl⟩ := o1.dat_inv.1.str_inv
    refine ⟨⟨x, rfl⟩, he F1 H1 σ ρ as m0 _ g1.fh (so.grow g1) e2 fun F2 H2 w ss g2 o2 => ?_⟩
    exact p F2 H2 x [w] [m0] m Q g2.fh (.cons o2 .nil) e fun F3 H3 u ts g3 o3 n3 => k F3 H3 u ts ((g1.trans g2).trans g3) o3 fun z hz => back_none (g1.trans g2) (n3 z hz)
  · cases e
def xM1 (f : List Nat → List M → Option M) (g ga : G D) : G M := gBind g fun d => match d with
  | .str s => gBind ga fun e => gOpt (f s [.dat e])
  | _ => fun _ => none
theorem em_m1 {r : V → List V → Hp → VK → Prop} {f : List Nat → List M → Option M} (p : SM K r f) (ho : EX K E kp te xa) (he : EX K E kp tb xb) : EM K E kp (tM1 r te tb) (xM1 f xa xb) := fun F H σ ρ as o Q hs so e hx k => by
  refine ho.use hs so e hx fun d ρ1 F1 H1 as1 v g1 so1 r1 e1 => ?_
  split at e1
  · obtain ⟨x, rfl, rfl⟩ := r1.str_inv
    refine ⟨⟨x, rfl⟩, he.use g1.fh so1 e1 (hx.step (.refl _) g1) fun d2 ρ2 F2 H2 as2 w g2 so2 r2 e2 => ?_⟩
    obtain ⟨m, e3, eo⟩ := gOpt_ok e2
    exact p F2 H2 x [w] _ m Q g2.fh (.cons (.dat r2) .nil) e3 (em_fin (t := m) so2 (g1.trans g2) eo k)
  · cases e1
def fStarts (s : List Nat) : List M → Option M
  | [.dat (.str t)] => some (.dat (.bl (t.isPrefixOf s)))
  | _ => none
theorem startswith_eq (a b : Str) : Txt.startswith a b = b.cps.toList.isPrefixOf a.cps.toList := by
  unfold Txt.startswith
  rw [isPrefixOf_take, StrLaws.subAt_eq, List.drop_zero]
  have hb : b.length = b.cps.toList.length := by simp [Str.length]
  have ha : a.length = a.cps.toList.length := by simp [Str.length]
  rw [hb, ha]
  rw [Bool.eq_iff_iff]
  simp only [Nat.zero_add, Bool.and_eq_true, decide_eq_true_eq, beq_iff_eq]
  constructor
  · exact fun z => z.2
  · intro z
    have h := congrArg List.length z
    rw [List.length_take] at h
    exact ⟨by omega, z⟩
theorem sm_starts : SM K (fun x xs H Q => ∃ a b, x = .str a ∧ xs = [.str b] ∧ Q (.bl (Txt.startswith a b)) H) fStarts := fun F H x vs ms t Q hs ho e k => by
  unfold fStarts at e
  split at e
  · cases e
    obtain ⟨v, bs, rfl, ha⟩ := ho.one
    obtain ⟨y, rfl, rfl⟩ := ha.dat_inv.1.str_inv
    refine ⟨x, y, rfl, rfl, ?_⟩
    rw [startswith_eq]
    exact same_dat hs (.bl _) k
  · cases e
def fStarts3 (s : List Nat) : List M → Option M
  | [.dat (.str t), .dat (.int i)] => if 0 ≤ i ∧ i ≤ s.length then some (.dat (.bl (t.isPrefixOf (s.drop i.toNat)))) else none
  | _ => none
theorem startswith3_eq (a b : Str) {i : Int} (h0 : 0 ≤ i) (h1 : i ≤ a.cps.toList.length) : Txt.startswith3 a b i = b.cps.toList.isPrefixOf (a.cps.toList.drop i.toNat) := by
  unfold Txt.startswith3
  have hb : b.length = b.cps.toList.length := by simp [Str.length]
  have ha : a.length = a.cps.toList.length := by simp [Str.length]
  have hf : fromIndex a.length i = i.toNat := by
    unfold fromIndex
    rw [if_neg (by omega)]
    congr 1
    omega
  rw [hf, isPrefixOf_take, StrLaws.subAt_eq, hb, ha, Bool.eq_iff_iff]
  simp only [Bool.and_eq_true, decide_eq_true_eq, beq_iff_eq]
  constructor
  · exact fun z => z.2
  · intro z
    have := congrArg List.length z
    rw [List.length_take, List.length_drop] at this
    exact ⟨by omega, z⟩
theorem sm_starts3 : SM K (fun x xs H Q => ∃ (a b : Str) (i : Int), x = .str a ∧ xs = [.str b, .int i] ∧ Q (.bl (Txt.startswith3 a b i)) H) fStarts3 := fun F H x vs ms t Q hs ho e k => by
  unfold fStarts3 at e
  split at e
  · split at e
    · rename_i h
      cases e
      obtain ⟨v, w, as, bs, rfl, ha, hb⟩ := ho.two
      obtain ⟨y, rfl, rfl⟩ := ha.dat_inv.1.str_inv
      obtain rfl := hb.dat_inv.1.int_inv
      refine ⟨x, y, _, rfl, rfl, ?_⟩
      rw [startswith3_eq _ _ h.1 h.2]
      exact same_dat hs (.bl _) k
    · cases e
  · cases e
def strL : List D → Option (List (List Nat))
  | [] => some []
  | .str s :: ds => (match strL ds with
    | some ss => some (s :: ss)
    | none => none)
  | _ => none
theorem strL_map : ∀ ss : List (List Nat), strL (ss.map D.str) = some ss
  | [] => rfl
  | n :: ns => by
    show (match strL (ns.map D.str) with
    | some ns => some (n :: ns)
    | none => none) = _
    rw [strL_map ns]
def mkS (l : List Nat) : Str := ⟨l.toArray⟩
theorem strL_vals : ∀ {vs : List V} {ds : List D} {ss : List (List Nat)}, DVs K F vs ds → strL ds = some ss → vs = (ss.map mkS).map V.str
  | _, _, ns, .nil, e => by cases e; rfl
  | _, d :: ds, ns, .cons h hs, e => by
    cases h <;> simp only [strL] at e <;> try cases e
    split at e
    · rename_i ns' e'
      cases e
      rw [strL_vals hs e']
      rfl
    · cases e
/-- the texts of a list or tuple -/
def strsOf : M → Option (List (List Nat)) := fun m => match m with
  | .dat (.tup ds) => strL ds
  | m => (match litems m with
    | some ds => strL ds
    | none => none)
def fJoin (s : List Nat) : List M → Option M
  | [m] => (match strsOf m with
    | some ss => if (ss.map List.length).sum + ss.length * s.length ≤ 16000000 then some (.dat (.str (TL.joinL s ss))) else none
    | none => none)
  | _ => none
theorem strsOf_ok {v : V} {m : M} {ss : List (List Nat)} (hs : Same F H) (h : Own K F H v m as) (e : strsOf m = some ss) : ∃ p, v = .ref p ∧ (SqL K.K H p ((ss.map mkS).map V.str) ∨ SqT K.K H p ((ss.map mkS).map V.str)) := by
  unfold strsOf at e
  split at e
  · obtain ⟨p, xs, rfl, h1, h2⟩ := h.dat_inv.1.tup_inv
    obtain rfl := strL_vals h2 e
    exact ⟨p, rfl, .inr (SqT.mono hs h1)⟩
  · split at e
    · rename_i ds e1
      obtain ⟨p, xs, rfl, h1, h2⟩ := h.items hs e1
      obtain rfl := strL_vals h2 e
      exact ⟨p, rfl, .inl (.of h1)⟩
    · cases e
abbrev rJoin (K : PySem.W.Frag) : V → List V → Hp → VK → Prop := fun x xs H Q => ∃ a p, ∃ ys : List Str, x = .str a ∧ xs = [.ref p] ∧ (SqL K H p (ys.map V.str) ∨ SqT K H p (ys.map V.str)) ∧
    (ys.map (·.length)).sum + ys.length * a.length ≤ 16777216 ∧ Q (.str (Txt.join a ys)) H
theorem sm_join : SM K (rJoin K.K) fJoin := fun F H x vs ms t Q hs ho e k => by
  unfold fJoin at e
  split at e
  · split at e
    · rename_i ss e1
      split at e
      · rename_i hl
        cases e
        obtain ⟨v, bs, rfl, ha⟩ := ho.one
        obtain ⟨p, rfl, h1⟩ := strsOf_ok hs ha e1
        have hx : x.length = x.cps.toList.length := by simp [Str.length]
        refine ⟨x, p, ss.map mkS, rfl, rfl, h1, ?_, ?_⟩
        · have e3 : (ss.map mkS).map (·.length) = ss.map List.length := by
            rw [List.map_map]
            apply List.map_congr_left
            intro a _
            exact str_eq a
          rw [e3, List.length_map, hx]
          omega
        · have ej : Txt.join x (ss.map mkS) = ⟨(TL.joinL x.cps.toList ss).toArray⟩ := by
            rw [TL.join_eq]
            apply Str.ext'
            apply Array.toList_inj.mp
            have := TL.tl_join x (ss.map mkS)
            simp only [TL.tl, List.map_map] at this
            rw [this]
            simp [mkS, Function.comp_def]
          rw [ej]
          exact same_dat hs (.str' _) k
      · cases e
    · cases e
  · cases e
end
end Y
/-! Y: what is walked; isinstance; sorted by length; how many texts apart. -/
namespace Y
open PySem L2
variable [TabC]
section
variable {X : Cx} {K : Kx} {E : XK} {kp : Nat → Bool} {F F' F1 F2 H H' H1 H2 : Hp} {as as' as1 as2 bs : List Addr} {σ σ' σ1 : L2.St} {ρ : Env} {te tb tc : TE} {ta : TA} {ga gb gc : Env → Option M} {xa xb : G D}
/-! ### lists, tuples, texts walked -/
def iAny (K : PySem.W.Frag) (tl : TE) : TI := fun σ H R => iList K tl σ H R ∨ iTup K tl σ H R ∨ iStr tl σ H R
theorem pi_any {tg l : Expr} {tl : TE} (hl : PE X l tl) : PI X tg l (iAny X.K tl) :=
  ⟨fun pins s σ H R I h => h.elim ((pi_list hl).run pins s σ H R I) fun h => h.elim ((pi_tup hl).run pins s σ H R I) ((pi_str hl).run pins s σ H R I)⟩
def itemsD : D → Option (List D)
  | .lst ds => some ds
  | .tup ds => some ds
  | .str s => some (s.map fun c => .str [c])
  | _ => none
def itemsM : M → Option (List D)
  | .dat d => itemsD d
  | .lst ms => dats ms
  | _ => none
theorem walks_list {a : Addr} {xs : List V} {ds : List D} (h : ∀ {F1 H1 : Hp}, Gr F H [] F1 H1 [] → H1 a = some (.lst xs)) (r : DVs K F xs ds) : WalksP K F H (Itl K.K a) ds := fun i F1 H1 g => by
  have h1 := h g
  refine ⟨fun d e => ?_, fun hl => ⟨xs, .of h1, by rw [r.length]; exact hl⟩⟩
  obtain ⟨v, q1, q2⟩ := r.get e
  refine ⟨⟨xs, v, .of h1, q1⟩, fun x H2 y => ?_⟩
  obtain ⟨rfl, y⟩ := y
  have := y xs (.of h1)
  rw [q1] at this
  cases this
  exact ⟨F1, .refl g.fh, q2.mono g.ff⟩
theorem walks_listF {a : Addr} {xs : List V} {ds : List D} (h : F a = some (.lst xs)) (r : DVs K F xs ds) : Walks K F H (Itl K.K a) ds := fun i F1 H1 g1 g2 => by
  have h1 := g2 _ _ (g1 _ _ h)
  refine ⟨fun d e => ?_, fun hl => ⟨xs, .of h1, by rw [r.length]; exact hl⟩⟩
  obtain ⟨v, q1, q2⟩ := r.get e
  refine ⟨⟨xs, v, .of h1, q1⟩, fun x H2 y => ?_⟩
  obtain ⟨rfl, y⟩ := y
  have := y xs (.of h1)
  rw [q1] at this
  cases this
  exact ⟨F1, .refl g2, q2.mono g1⟩
theorem walks_tupF {a : Addr} {xs : List V} {ds : List D} (h : SqT K.K F a xs) (r : DVs K F xs ds) : Walks K F H (Itt K.K a) ds := fun i F1 H1 g1 g2 => by
  have h1 := SqT.mono g2 (SqT.mono g1 h)
  refine ⟨fun d e => ?_, fun hl => ⟨xs, h1, by rw [r.length]; exact hl⟩⟩
  obtain ⟨v, q1, q2⟩ := r.get e
  refine ⟨⟨xs, v, h1, q1⟩, fun x H2 y => ?_⟩
  obtain ⟨rfl, y⟩ := y
  have := y xs h1
  rw [q1] at this
  cases this
  exact ⟨F1, .refl g2, q2.mono g1⟩
theorem walks_str (x : Str) : Walks K F H (Its x) (x.cps.toList.map fun c => .str [c]) := fun i F1 H1 g1 g2 => by
  refine ⟨fun d e => ?_, fun hl => (by simpa using hl : x.cps.size ≤ i)⟩
  rw [List.getElem?_map] at e
  cases q : x.cps.toList[i]? with
  | none => rw [q] at e; cases e
  | some c =>
    rw [q] at e
    cases e
    obtain ⟨hi, hc⟩ := List.getElem?_eq_some_iff.mp q
    refine ⟨(by simpa using hi : i < x.cps.size), fun v H2 y => ?_⟩
    obtain ⟨rfl, c', hc', rfl⟩ := y
    have : c' = c := by
      rw [← Array.getElem?_toList, q] at hc'
      exact (Option.some.inj hc').symm
    subst this
    exact ⟨F1, .refl g2, .str' [c']⟩
theorem Walks.p {J : It} {ds : List D} (h : Walks K F H J ds) : WalksP K F H J ds := fun i F1 H1 g => h i F1 H1 g.ff g.fh
theorem ji_any (h : EX K E kp te xa) : JI K E kp (iAny K.K te) (gBind xa fun d => gOpt (itemsD d)) := fun F H σ ρ as o R hs so e hx k => by
  rcases gBind_cases e with ⟨C, ρ', e1, eo⟩ | ⟨d, ρ', e1, eo⟩
  · exact .inl (h F H σ ρ as _ _ hs so e1 (hx.to fun C' ρ'' e' => by rw [eo]; cases e'; rfl) fun ds ρ'' e' => by cases e')
  · obtain ⟨ds, e2, rfl⟩ := gOpt_ok eo
    cases d <;> simp only [itemsD] at e2 <;> cases e2
    · refine .inr (.inr (h F H σ ρ as _ _ hs so e1 .ok fun d' ρ'' e' F1 H1 as1 v g1 so1 r => ?_))
      cases e'
      obtain ⟨x, rfl, rfl⟩ := r.str_inv
      exact ⟨x, rfl, k _ _ rfl F1 H1 as1 _ g1 so1 (walks_str x)⟩
    · refine .inr (.inl (h F H σ ρ as _ _ hs so e1 .ok fun d' ρ'' e' F1 H1 as1 v g1 so1 r => ?_))
      cases e'
      obtain ⟨a, xs, rfl, h1, h2⟩ := r.tup_inv
      exact ⟨a, rfl, ⟨xs, SqT.mono g1.fh h1⟩, k _ _ rfl F1 H1 as1 _ g1 so1 (walks_tupF h1 h2)⟩
    · refine .inl (h F H σ ρ as _ _ hs so e1 .ok fun d' ρ'' e' F1 H1 as1 v g1 so1 r => ?_)
      cases e'
      obtain ⟨a, xs, rfl, h1, h2⟩ := r.lst_inv
      exact ⟨a, rfl, ⟨xs, .of (g1.fh _ _ h1)⟩, k _ _ rfl F1 H1 as1 _ g1 so1 (walks_listF h1 h2)⟩
def pItems (g : Env → Option M) : Env → Option (List D) := fun ρ => match g ρ with
  | some m => itemsM m
  | none => none
theorem jip_any (h : EP K te ga) : JIP K (iAny K.K te) (pItems ga) := fun F H σ ρ as ds R hs so e k => by
  unfold pItems at e
  split at e
  case h_2 => cases e
  rename_i m e1
  cases m with
  | dat d =>
    simp only [itemsM] at e
    cases d <;> simp only [itemsD] at e <;> cases e
    · refine .inr (.inr (h F H σ ρ as _ _ hs so e1 fun F1 H1 v rs g1 r => ?_))
      obtain ⟨x, rfl, rfl⟩ := r.dat_inv.1.str_inv
      exact ⟨x, rfl, k F1 H1 _ g1 (walks_str x).p⟩
    · refine .inr (.inl (h F H σ ρ as _ _ hs so e1 fun F1 H1 v rs g1 r => ?_))
      obtain ⟨a, xs, rfl, h1, h2⟩ := r.dat_inv.1.tup_inv
      exact ⟨a, rfl, ⟨xs, SqT.mono g1.fh h1⟩, k F1 H1 _ g1 (walks_tupF h1 h2).p⟩
    · refine .inl (h F H σ ρ as _ _ hs so e1 fun F1 H1 v rs g1 r => ?_)
      obtain ⟨a, xs, rfl, h1, h2⟩ := r.dat_inv.1.lst_inv
      exact ⟨a, rfl, ⟨xs, .of (g1.fh _ _ h1)⟩, k F1 H1 _ g1 (walks_listF h1 h2).p⟩
  | lst ms =>
    simp only [itemsM] at e
    refine .inl (h F H σ ρ as _ _ hs so e1 fun F1 H1 v rs g1 r => ?_)
    have := dats_of e
    subst this
    cases r with
    | lst ha fa hv n => exact ⟨_, rfl, ⟨_, .of ha⟩, k F1 H1 _ g1 (walks_list (fun g => g.hh _ _ ha (by simp)) hv.dats_inv)⟩
  | dic kds => simp only [itemsM] at e; cases e
  | obj c fs => simp only [itemsM] at e; cases e
/-! ### ranges -/
def rngD (lo : Int) (n : Nat) : List D := (List.range n).map fun (i : Nat) => D.int (lo + (i : Int))
theorem walks_rng (lo : Int) (n : Nat) : Walks K F H (Itr lo n) (rngD lo n) := fun i F1 H1 g1 g2 => by
  refine ⟨fun d e => ?_, fun hl => (by simpa [rngD] using hl : n ≤ i)⟩
  unfold rngD at e
  rw [List.getElem?_map] at e
  cases q : (List.range n)[i]? with
  | none => rw [q] at e; cases e
  | some j =>
    rw [q] at e
    cases e
    obtain ⟨hi, hj⟩ := List.getElem?_eq_some_iff.mp q
    simp at hi hj
    subst hj
    refine ⟨hi, fun v H2 y => ?_⟩
    obtain ⟨rfl, rfl⟩ := y
    exact ⟨F1, .refl g2, .int _⟩
def rng1 : List D → Option (List D)
  | [.int n] => if -1000000 ≤ n ∧ n ≤ 1000000 then some (rngD 0 n.toNat) else none
  | _ => none
def rng2 : List D → Option (List D)
  | [.int i, .int j] => if -1000000 ≤ i ∧ i ≤ 1000000 ∧ -1000000 ≤ j ∧ j ≤ 1000000 then some (rngD i (j - i).toNat) else none
  | _ => none
theorem DVs.int1 {vs : List V} {n : Int} (h : DVs K F vs [.int n]) : vs = [.int n] := by
  cases h with
  | cons h hs => cases hs; rw [h.int_inv]
theorem DVs.int2 {vs : List V} {n m : Int} (h : DVs K F vs [.int n, .int m]) : vs = [.int n, .int m] := by
  cases h with
  | cons h hs => rw [h.int_inv, hs.int1]
theorem ji_rng1 {gs : G (List D)} (h : EXs K E kp ta gs) : JI K E kp (iRng1 ta) (gBind gs fun ds => gOpt (rng1 ds)) := fun F H σ ρ as o R hs so e hx k => by
  refine h.use hs so e hx fun ds ρ1 F1 H1 as1 vs g1 so1 r e1 => ?_
  obtain ⟨es, e2, rfl⟩ := gOpt_ok e1
  unfold rng1 at e2
  split at e2
  · split at e2
    · rename_i hn
      cases e2
      obtain rfl := r.int1
      exact ⟨_, rfl, by omega, by omega, k _ _ rfl F1 H1 as1 _ g1 so1 (walks_rng 0 _)⟩
    · cases e2
  · cases e2
theorem ji_rng2 {gs : G (List D)} (h : EXs K E kp ta gs) : JI K E kp (iRng2 ta) (gBind gs fun ds => gOpt (rng2 ds)) := fun F H σ ρ as o R hs so e hx k => by
  refine h.use hs so e hx fun ds ρ1 F1 H1 as1 vs g1 so1 r e1 => ?_
  obtain ⟨es, e2, rfl⟩ := gOpt_ok e1
  unfold rng2 at e2
  split at e2
  · split at e2
    · rename_i hn
      cases e2
      obtain rfl := r.int2
      exact ⟨_, _, rfl, by omega, k _ _ rfl F1 H1 as1 _ g1 so1 (walks_rng _ _)⟩
    · cases e2
  · cases e2
theorem jip_rng1 {gs : Env → Option (List D)} (h : PD K ta gs) : JIP K (iRng1 ta) (fun ρ => (gs ρ).bind rng1) := fun F H σ ρ as ds R hs so e k => by
  have e : (gs ρ).bind rng1 = some ds := e
  cases q : gs ρ with
  | none => rw [q] at e; cases e
  | some es =>
    rw [q] at e
    have e : rng1 es = some ds := e
    refine h F H σ ρ as es _ hs so q fun F1 H1 vs g1 r => ?_
    unfold rng1 at e
    split at e
    · split at e
      · rename_i hn
        cases e
        obtain rfl := r.int1
        exact ⟨_, rfl, by omega, by omega, k F1 H1 _ g1 (walks_rng 0 _).p⟩
      · cases e
    · cases e
theorem jip_rng2 {gs : Env → Option (List D)} (h : PD K ta gs) : JIP K (iRng2 ta) (fun ρ => (gs ρ).bind rng2) := fun F H σ ρ as ds R hs so e k => by
  have e : (gs ρ).bind rng2 = some ds := e
  cases q : gs ρ with
  | none => rw [q] at e; cases e
  | some es =>
    rw [q] at e
    have e : rng2 es = some ds := e
    refine h F H σ ρ as es _ hs so q fun F1 H1 vs g1 r => ?_
    unfold rng2 at e
    split at e
    · split at e
      · rename_i hn
        cases e
        obtain rfl := r.int2
        exact ⟨_, _, rfl, by omega, k F1 H1 _ g1 (walks_rng _ _).p⟩
      · cases e
    · cases e
/-! ### isinstance -/
def tyN : D → String
  | .non => "NoneType" | .bl _ => "bool" | .int _ => "int" | .str _ => "str" | .tup _ => "tuple" | .lst _ => "list" | .scr _ => "list" | .dic _ => "dict"
/-- is a thing of the kind n -/
def isiD (n : String) (d : D) : Bool := tyN d == n || (tyN d == "bool" && n == "int")
def isiOk (n : String) : Bool := n == "int" || n == "bool" || n == "str" || n == "tuple" || n == "list"
theorem kit_int : ∀ a ∈ ["NoneType", "bool", "int", "str", "tuple", "list"], kitB a "int" = some (a == "int" || (a == "bool" && "int" == "int")) := by decide +kernel
theorem kit_bool : ∀ a ∈ ["NoneType", "bool", "int", "str", "tuple", "list"], kitB a "bool" = some (a == "bool" || (a == "bool" && "bool" == "int")) := by decide +kernel
theorem kit_str : ∀ a ∈ ["NoneType", "bool", "int", "str", "tuple", "list"], kitB a "str" = some (a == "str" || (a == "bool" && "str" == "int")) := by decide +kernel
theorem kit_tuple : ∀ a ∈ ["NoneType", "bool", "int", "str", "tuple", "list"], kitB a "tuple" = some (a == "tuple" || (a == "bool" && "tuple" == "int")) := by decide +kernel
theorem kit_list : ∀ a ∈ ["NoneType", "bool", "int", "str", "tuple", "list"], kitB a "list" = some (a == "list" || (a == "bool" && "list" == "int")) := by decide +kernel
theorem kit_all {n a : String} (h : isiOk n = true) (ha : a ∈ ["NoneType", "bool", "int", "str", "tuple", "list"]) : kitB a n = some (a == n || (a == "bool" && n == "int")) := by
  simp only [isiOk, Bool.or_eq_true, beq_iff_eq] at h
  rcases h with (((rfl | rfl) | rfl) | rfl) | rfl
  · exact kit_int a ha
  · exact kit_bool a ha
  · exact kit_str a ha
  · exact kit_tuple a ha
  · exact kit_list a ha
def isiM (n : String) : M → Option Bool
  | .dat (.dic _) => none
  | .dat d => some (isiD n d)
  | .lst _ => some (n == "list")
  | _ => none
theorem tyx_of {v : V} {m : M} {n : String} {b : Bool} (hs : Same F H) (h : Own K F H v m as) (e : isiM n m = some b) : ∃ a, a ∈ ["NoneType", "bool", "int", "str", "tuple", "list"] ∧ TyX K.K H v (.type a) ∧ b = (a == n || (a == "bool" && n == "int")) := by
  cases h with
  | dat h =>
    cases h with
    | non => cases e; exact ⟨"NoneType", by decide, .base .non, rfl⟩
    | bl x => cases e; exact ⟨"bool", by decide, .base (.bl x), rfl⟩
    | int i => cases e; exact ⟨"int", by decide, .base (.int i), rfl⟩
    | str x => cases e; exact ⟨"str", by decide, .base (.str x), rfl⟩
    | tup h _ =>
      cases e
      refine ⟨"tuple", by decide, ?_, rfl⟩
      rcases SqT.mono hs h with (h | ⟨o, h⟩) | ⟨o, its, n, h, hc, _⟩
      · exact .base (.tup h)
      · exact .fTuple h
      · exact .kTuple h hc
    | lst h _ => cases e; exact ⟨"list", by decide, .base (.lst (hs _ _ h)), rfl⟩
    | scr h =>
      cases e
      refine ⟨"list", by decide, ?_, rfl⟩
      rcases SqL.mono hs h with (h | ⟨o, h⟩) | ⟨o, its, n, h, hc, _⟩
      · exact .base (.lst h)
      · exact .base (.frz h)
      · exact .kList h hc
    | dic _ _ => cases e
  | lst ha _ _ _ =>
    cases e
    refine ⟨"list", by decide, .base (.lst ha), ?_⟩
    rw [show (("list" : String) == "bool") = false by decide, Bool.false_and, Bool.or_false, BEq.comm]
  | dic _ _ _ => cases e
  | obj _ _ _ _ _ _ _ _ _ => cases e
def nIsi (n : String) (g : Env → Option M) : Env → Option M := fun ρ => match g ρ with
  | some m => if isiOk n then (match isiM n m with
    | some b => some (.dat (.bl b))
    | none => none) else none
  | none => none
theorem en_isi {n : String} (h : EP K te ga) : EN K (tCB (rIsi K.K) (tCons te (tCons (tC (.ty n)) tNil))) (nIsi n ga) := fun F H σ ρ as m Q hs so e k => by
  unfold nIsi at e
  split at e
  case h_2 => cases e
  rename_i m0 e1
  split at e
  case isFalse => cases e
  rename_i hn
  split at e
  case h_2 => cases e
  rename_i b eb
  cases e
  refine h F H σ ρ as _ _ hs so e1 fun F1 H1 v rs g1 r => ?_
  obtain ⟨a, ha, ty, q⟩ := tyx_of g1.fh r eb
  refine ⟨v, .ty n, .type a, .type n, b, rfl, .ty n, ty, ?_, k F1 H1 _ [] g1 (.dat (.bl b)) (by simp)⟩
  rw [q]
  exact kit_ty (kit_all hn ha)
/-- all([..]) -/
def bls : List D → Option (List Bool)
  | [] => some []
  | .bl b :: ds => (match bls ds with
    | some ns => some (b :: ns)
    | none => none)
  | _ => none
theorem bls_map : ∀ ns : List Bool, bls (ns.map D.bl) = some ns
  | [] => rfl
  | n :: ns => by
    show (match bls (ns.map D.bl) with
    | some ns => some (n :: ns)
    | none => none) = _
    rw [bls_map ns]
theorem bls_vals : ∀ {vs : List V} {ds : List D} {ns : List Bool}, DVs K F vs ds → bls ds = some ns → vs = ns.map V.bl
  | _, _, ns, .nil, e => by cases e; rfl
  | _, d :: ds, ns, .cons h hs, e => by
    cases h <;> simp only [bls] at e <;> try cases e
    split at e
    · rename_i ns' e'
      cases e
      rw [bls_vals hs e']
      rfl
    · cases e
def fAll : List M → Option M
  | [m] => (match litems m with
    | some ds => (match bls ds with
      | some ns => some (.dat (.bl (ns.all id)))
      | none => none)
    | none => none)
  | _ => none
theorem p_all : PL K (rAll K.K) fAll := fun F H vs ms t Q hs ho e k => by
  unfold fAll at e
  split at e
  · split at e
    · rename_i ds e1
      split at e
      · rename_i ns e2
        cases e
        obtain ⟨v, bs, rfl, ha⟩ := ho.one
        obtain ⟨p, xs, rfl, h1, h2⟩ := ha.items hs e1
        obtain rfl := bls_vals h2 e2
        exact ⟨p, ns, rfl, .of h1, same_dat hs (.bl _) k⟩
      · cases e
    · cases e
  · cases e
/-- the greatest, the least of a list -/
def fMaxL : List M → Option M
  | [m] => (match litems m with
    | some ds => (match intL ds with
      | some (n :: ns) => some (.dat (.int (ns.foldl max n)))
      | _ => none)
    | none => none)
  | _ => none
def fMinL : List M → Option M
  | [m] => (match litems m with
    | some ds => (match intL ds with
      | some (n :: ns) => some (.dat (.int (ns.foldl min n)))
      | _ => none)
    | none => none)
  | _ => none
theorem foldl_max (ns : List Int) : ∀ n : Int, (ns.foldl max n = n ∨ ns.foldl max n ∈ ns) ∧ n ≤ ns.foldl max n ∧ ∀ y ∈ ns, y ≤ ns.foldl max n := by
  induction ns with
  | nil => intro n; simp
  | cons x xs ih =>
    intro n
    obtain ⟨h1, h2, h3⟩ := ih (max n x)
    refine ⟨?_, by show n ≤ xs.foldl max (max n x); omega, fun y hy => ?_⟩
    · show xs.foldl max (max n x) = n ∨ xs.foldl max (max n x) ∈ x :: xs
      rcases h1 with h1 | h1
      · rw [h1]
        by_cases q : x ≤ n
        · exact .inl (by omega)
        · exact .inr (by rw [show max n x = x by omega]; exact List.mem_cons_self)
      · exact .inr (List.mem_cons_of_mem _ h1)
    · show y ≤ xs.foldl max (max n x)
      rcases List.mem_cons.mp hy with e | hy
      · rw [e]; omega
      · exact h3 y hy
theorem foldl_min (ns : List Int) : ∀ n : Int, (ns.foldl min n = n ∨ ns.foldl min n ∈ ns) ∧ ns.foldl min n ≤ n ∧ ∀ y ∈ ns, ns.foldl min n ≤ y := by
  induction ns with
  | nil => intro n; simp
  | cons x xs ih =>
    intro n
    obtain ⟨h1, h2, h3⟩ := ih (min n x)
    refine ⟨?_, by show xs.foldl min (min n x) ≤ n; omega, fun y hy => ?_⟩
    · show xs.foldl min (min n x) = n ∨ xs.foldl min (min n x) ∈ x :: xs
      rcases h1 with h1 | h1
      · rw [h1]
        by_cases q : n ≤ x
        · exact .inl (by omega)
        · exact .inr (by rw [show min n x = x by omega]; exact List.mem_cons_self)
      · exact .inr (List.mem_cons_of_mem _ h1)
    · show xs.foldl min (min n x) ≤ y
      rcases List.mem_cons.mp hy with e | hy
      · rw [e]; omega
      · exact h3 y hy
theorem p_maxL : PL K (rMax K.K) fMaxL := fun F H vs ms t Q hs ho e k => by
  unfold fMaxL at e
  split at e
  · split at e
    · rename_i ds e1
      split at e
      · rename_i n ns e2
        cases e
        obtain ⟨v, bs, rfl, ha⟩ := ho.one
        obtain ⟨p, xs, rfl, h1, h2⟩ := ha.items hs e1
        obtain rfl := ints_vals h2 e2
        obtain ⟨q1, q2, q3⟩ := foldl_max ns n
        refine ⟨p, n :: ns, rfl, .of h1, by simp, fun m hm hy => ?_⟩
        have : m = ns.foldl max n := by
          have a1 : m ≤ ns.foldl max n := by
            rcases List.mem_cons.mp hm with z | z
            · omega
            · exact q3 m z
          have a2 : ns.foldl max n ≤ m := by
            rcases q1 with z | z
            · rw [z]; exact hy n List.mem_cons_self
            · exact hy _ (List.mem_cons_of_mem _ z)
          omega
        rw [this]
        exact same_dat hs (.int _) k
      · cases e
    · cases e
  · cases e
theorem p_minL : PL K (rMin K.K) fMinL := fun F H vs ms t Q hs ho e k => by
  unfold fMinL at e
  split at e
  · split at e
    · rename_i ds e1
      split at e
      · rename_i n ns e2
        cases e
        obtain ⟨v, bs, rfl, ha⟩ := ho.one
        obtain ⟨p, xs, rfl, h1, h2⟩ := ha.items hs e1
        obtain rfl := ints_vals h2 e2
        obtain ⟨q1, q2, q3⟩ := foldl_min ns n
        refine ⟨p, n :: ns, rfl, .of h1, by simp, fun m hm hy => ?_⟩
        have : m = ns.foldl min n := by
          have a1 : ns.foldl min n ≤ m := by
            rcases List.mem_cons.mp hm with z | z
            · omega
            · exact q3 m z
          have a2 : m ≤ ns.foldl min n := by
            rcases q1 with z | z
            · rw [z]; exact hy n List.mem_cons_self
            · exact hy _ (List.mem_cons_of_mem _ z)
          omega
        rw [this]
        exact same_dat hs (.int _) k
      · cases e
    · cases e
  · cases e
end
end Y
/-! Y: how many texts of a list are apart; sorted by length. -/
namespace Y
open PySem PySem.Spec PyProof.Rows L2
variable [TabC]
/-- how many are apart, of a row told backwards -/
def apart {α : Type} [BEq α] : List α → Nat
  | [] => 0
  | x :: r => if r.any (· == x) then apart r else apart r + 1
theorem apart_le {α : Type} [BEq α] : ∀ l : List α, apart l ≤ l.length
  | [] => Nat.le_refl _
  | x :: r => by
    unfold apart
    have := apart_le r
    rw [List.length_cons]
    split <;> omega
namespace SL
abbrev blank (led : Bool) : Obj := { cls := .type "set", dict := none, data := .set #[] 0 (.fresh 0 0 led) }
theorem at_str : ∀ {us : List Value} {xs : List Str}, StrsAre us xs → ∀ (i : Nat) (v : Value), us[i]? = some v → ∃ x t, xs[i]? = some x ∧ v = .str x t
  | _, _, .nil, i, v, e => by simp at e
  | _, _, .cons n t hr, 0, v, e => by
    simp at e
    exact ⟨n, t, rfl, e.symm⟩
  | _, _, .cons n t hr, i + 1, v, e => by
    obtain ⟨x, t', h1, h2⟩ := at_str hr i v (by simpa using e)
    exact ⟨x, t', by simpa using h1, h2⟩
section
variable {prog : Program} {w : World} {A : Around} {R : Result → Shared → Prop} {I : Addr} {fp wr : List Addr} {G : Array GenState → Array GenState → Prop} {n : Nat} {P : Nat → Value → Prop} {St : Nat → Shared → Prop}
/-- what the set holds behind i of them -/
abbrev Holds (prog : Program) (w : World) (h : Heap) (S : Addr) (xs : List Str) (i : Nat) : Prop := h.SetOf (PySem.strKind prog w) S (fun q => (xs.take i).reverse.any (· == q)) (apart (xs.take i).reverse)
theorem filled (W : WalksS prog w A.in1 I fp wr G n P St) (S : Addr) (out : S ∉ fp) (xs : List Str) (len : xs.length = n) (few : n + 1 < scanBound)
    (item : ∀ i v, P i v → ∃ x t, xs[i]? = some x ∧ v = .str x t) :
    ∀ (left i : Nat) (s : Shared), n - i = left → i ≤ n → St i s → Holds prog w s.heap S xs i →
      (∀ s', Moved (S :: wr) G s s' → Holds prog w s'.heap S xs n → R (.ok (.ret .none)) s') →
      codeAny (model prog w) A (.builtin "set.update.loop" ⟨[.ref S, .ref I], []⟩) R s := by
  have outW : S ∉ wr := fun q => out (W.sub _ q)
  intro left
  induction left with
  | zero =>
    intro i s el hi st hd fin
    have ei : i = n := by omega
    subst ei
    refine codeAny_builtin F.entry_set_update_loop ?_
    rw [Around.under_plainId F.plain_set_update_loop _]
    refine wpAny_bind (W.done s _ _ st fun s' mv => wpAny_pure (fin s' (mv.mono fun b q => List.mem_cons_of_mem _ q) ?_))
    obtain ⟨o, es, ep, tb, ho, more⟩ := hd
    exact ⟨o, es, ep, tb, mv.heap S _ outW ho, more⟩
  | succ left ih =>
    intro i s el hi st hd fin
    have lt : i < n := by omega
    refine codeAny_builtin F.entry_set_update_loop ?_
    rw [Around.under_plainId F.plain_set_update_loop _]
    refine wpAny_bind (W.item i s _ _ lt st fun v s' hp st' mv => ?_)
    obtain ⟨x, t, ex, rfl⟩ := item i v hp
    have hd' : Holds prog w s'.heap S xs i := by
      obtain ⟨o, es, ep, tb, ho, more⟩ := hd
      exact ⟨o, es, ep, tb, mv.heap S _ outW ho, more⟩
    have et : (xs.take (i + 1)).reverse = x :: (xs.take i).reverse := by
      rw [List.take_add_one, ex]
      simp
    have room : apart (xs.take i).reverse + 1 < scanBound := by
      have h1 := apart_le (xs.take i).reverse
      rw [List.length_reverse, List.length_take] at h1
      omega
    show wpAny _ A.in1 (holding [Value.str x t] (setAdd S (.str x t)) >>= _) _ _ s'
    refine wpAny_bind (wpAny_holding ?_)
    unfold setAdd
    refine wpAny_holding (wpAny_bind ((PySem.strKind prog w).pyHash (k := x) (strKind_is _ _ _ _) ?_))
    refine wpAny_setAddHashed_of (knd := PySem.strKind prog w) (s := { s' with toks := s'.toks + 1 }) (strKind_is _ _ _ _) rfl hd' room fun h2 same hd2 => ?_
    have hd3 : Holds prog w h2 S xs (i + 1) := by
      refine SetOf_congr hd2 (fun q => ?_) ?_
      · rw [et, List.any_cons, Bool.or_comm]
        congr 1
        by_cases e : q = x
        · subst e; simp
        · rw [decide_eq_false e]
          exact (beq_eq_false_iff_ne.mpr fun z => e z.symm).symm
      · rw [et]
        rfl
    refine wpAny_pure ⟨plainId_quiet F.plain_set_update_loop _, ih (i + 1) _ (by omega) lt (W.frame _ s' _ _ st' (Nat.le_succ _) fun b hb o e => ?_) hd3 fun s'' mv2 q => ?_⟩
    · rw [same.2 b (fun z : b = S => out (z ▸ hb))]
      exact e
    · refine fin s'' (Moved.trans W.gtrans ((mv.mono fun b q => List.mem_cons_of_mem _ q).then_heap (Nat.le_succ _) fun b o hb e => ?_) mv2) q
      rw [same.2 b fun z : b = S => hb (z ▸ List.mem_cons_self)]
      exact e
end
section
variable {prog : Program} {w : World} {A : Around} {E : Value → Shared → Prop} {s : Shared}
theorem made {l : Addr} {items : Array Value} {xs : List Str} {Q : Value → Shared → Prop} (calm : A.handled = none) (isl : s.heap.IsList l items) (texts : StrsAre items.toList xs) (few : xs.length + 1 < scanBound)
    (h : ∀ (h' : Heap) (tk : Nat), Holds prog w h' s.heap.objs.size xs xs.length → (∀ b o, b < s.heap.objs.size → s.heap.get? b = some o → h'.get? b = some o) → Q (.ref s.heap.objs.size) { s with heap := h', toks := tk }) :
    wpAny (model prog w) A (call (.type "set") [.ref l]) Q E s := by
  have size : xs.length = items.size := by rw [← StrsAre.len_eq texts, Array.length_toList]
  obtain ⟨mc, mt, mm⟩ := PySem.F.called_set.mro
  have k1 := PySem.F.called_set.made
  have k2 := PySem.F.called_set.sub
  refine wpAny_call (codeAny_of_tree ?_)
  show wpAny (model prog w) _ (callAny (.type "set") _) _ _ s
  refine wpAny_pure ⟨Code.quiet_builtin _ (by decide +kernel), codeAny_builtin PySem.F.entry_type_call ?_⟩
  rw [Around.under_plain (weight_type_call_type "set" [.ref l] []) rfl]
  have k3 := PySem.F.called_set.notType
  have k4 := PySem.F.called_set.canCreate
  have k5 := PySem.F.typeCall_set_1 (.ref l)
  repeat (any_goals first | assumption | wp_step)
  refine codeAny_mono (code_set_new_1 (.ref l) (E := E) (Q₁ := fun ob s1 => ∃ led : Bool, ob = .ref s.heap.objs.size ∧ s1 = { s with heap := s.heap.push (blank led) }) fun led => ⟨led, rfl, rfl⟩) fun r s1 hr => ?_
  cases r with
  | error e => exact hr
  | ok fl =>
    cases fl with
    | ret ob =>
      obtain ⟨led, rfl, rfl⟩ := hr
      have at1 : (s.heap.push (blank led)).get? s.heap.objs.size = some (blank led) := Heap.get?_push_size _ rfl
      have ty1 : Shared.TypeIs { s with heap := s.heap.push (blank led) } (.ref s.heap.objs.size) "set" := ⟨_, at1, rfl⟩
      have k6 := PySem.F.called_set.init.lookup
      have k7 := PySem.F.called_set.init.bind (.ref s.heap.objs.size)
      repeat (any_goals first | assumption | wp_step)
      refine codeAny_mono (codeAny_call_builtin (R := wants (fun r s2 => r = .none ∧ ∃ h' tk, s2 = { s with heap := h', toks := tk } ∧ Holds prog w h' s.heap.objs.size xs xs.length ∧
          ∀ b o, b < s.heap.objs.size → s.heap.get? b = some o → h'.get? b = some o) E) PySem.F.called_set.init.plain PySem.F.entry_set_init (check_set_init_1 ty1 ?_)) fun r2 s2 hr2 => ?_
      · obtain ⟨⟨kcls, kdict, kdata, kslots⟩, hob, kc, nn, kd⟩ := isl
        simp only at kc kd
        subst kc kd
        have at2 : (s.heap.push (blank led)).get? l = some { cls := .type "list", dict := kdict, data := .seq items nn, slots := kslots } := Heap.get?_push_of_some _ hob
        have k8 := PySem.F.sub_list_set
        have k9 := PySem.F.sub_list_frozenset
        have k10 : (Value.type "list" == Value.type "dict") = false := by decide
        have isl1 : (s.heap.push (blank led)).IsList l items := ⟨_, at2, rfl, nn, rfl⟩
        have small : l < s.heap.objs.size := Heap.lt_size hob
        have apartI : l ≠ (s.heap.push (blank led)).objs.size := by
          rw [Heap.size_push]
          exact Nat.ne_of_lt (Nat.lt_succ_of_lt small)
        unfold Builtin.«set.__init__» noKeywords Builtin.Frozenset.updateFrom
        generalize hit : pyIter = IT
        wp_walk
        subst hit
        refine wpAny_pyIter_list isl1 (wpAny_bind (wpAny_runValue ?_))
        have calm3 : A.in1.in1.in1.handled = none := by simp [calm]
        have notin : s.heap.objs.size ∉ [(s.heap.push (blank led)).objs.size, l] := fun z => by
          rw [Heap.size_push] at z
          rcases List.mem_cons.mp z with z | z
          · exact absurd z (Nat.ne_of_lt (Nat.lt_succ_self _))
          · exact absurd (List.mem_singleton.mp z) (Nat.ne_of_gt small)
        refine filled ((Walks.list calm3 _ l apartI items).toS) s.heap.objs.size notin xs size (by rw [← size]; exact few) (fun i v hv => at_str texts i v (by rw [Array.getElem?_toList]; exact hv)) (items.size - 0) 0 _ (by omega) (Nat.zero_le _)
          ⟨⟨_, Heap.get?_push_size _ rfl, rfl, rfl⟩, isl1.push _⟩ ?first ?last
        case first =>
          have at3 : ((s.heap.push (blank led)).push { cls := .type "list_iterator", data := .fields #[.ref l, .int 0 0] }).get? s.heap.objs.size = some (blank led) := Heap.get?_push_of_some _ at1
          exact SetOf_congr ((setObjOf_fresh (knd := PySem.strKind prog w) led).setOf at3 (by unfold scanBound; omega)) (fun _ => rfl) rfl
        case last =>
          rintro ⟨h', g', d', tk', os'⟩ mv hd'
          obtain rfl : g' = s.gens := mv.gens
          obtain rfl : d' = s.drawn := mv.drawn
          obtain rfl : os' = s.os := mv.os
          show wpAny _ _ (pure _) _ _ _
          refine wpAny_pure ?_
          show wpAny _ _ (ret Value.none) _ _ _
          rw [← size] at hd'
          refine wpAny_pure ⟨rfl, h', tk', rfl, hd', fun b o hb e => mv.heap b o (fun z => ?_) (Heap.get?_push_of_some _ (Heap.get?_push_of_some _ e))⟩
          rcases List.mem_cons.mp z with z | z
          · exact absurd z (Nat.ne_of_lt hb)
          · rw [List.mem_singleton.mp z, Heap.size_push] at hb
            omega
      · cases r2 with
        | error e => exact hr2
        | ok fl2 =>
          cases fl2 with
          | ret r =>
            obtain ⟨rfl, h', tk, rfl, q1, q2⟩ := hr2
            repeat (any_goals first | assumption | wp_step)
            exact h _ _ q1 q2
          | _ => exact hr2.elim
    | _ => exact hr.elim
end
end SL
end Y
namespace Y
open PySem PySem.Spec PyProof.Rows L2
variable [TabC]
section
variable {X : Cx} {K : Kx} {E : XK} {kp : Nat → Bool} {F F' F1 F2 H H' H1 H2 : Hp} {as as' as1 as2 bs : List Addr} {σ σ' σ1 : L2.St} {ρ : Env} {te tb tc : TE} {ta : TA} {ga gb gc : Env → Option M} {xa xb : G D}
/-- len(set(a list of texts)) -/
def rLenSet (K : PySem.W.Frag) : V → Hp → VK → Prop := fun x H1 Q => ∃ l, ∃ xs : List Str, x = .ref l ∧ SqL K H1 l (xs.map V.str) ∧ xs.length ≤ 4000 ∧ Q (.int (apart xs.reverse)) H1
theorem pe_lenSets {a : PySem.Expr} {p p2 q pos : Pos} (hc : X.calm = true) (hg : Gl X "len") (hm : X.mg "len" = none) (hg2 : Gl X "set") (hm2 : X.mg "set" = none) (ha : PE X a te)
    (na : starEach [a] X.env = (false, eval a X.env) :: starEach [] X.env := by rfl) : PE X (.Call (.Name "len" p) [.Call (.Name "set" p2) [a] [] q] [] pos) (tUn (rLenSet X.K) te) := by
  refine ⟨fun pins s σ H Q I h => Call_ (ld_blt I hg hm boot_len (callWith_builtin1 (args_cons ?_ rfl) rfl rfl))⟩
  refine Call_ (ld_blt I hg2 hm2 boot_set (callWith_type1 (args_cons (thn (ha.run pins s σ H _ I h) fun v s1 ⟨x, H1, I1, r1, q1⟩ => args_nil ?_) na) na rfl))
  obtain ⟨l, xs, rfl, hq, few, q1⟩ := q1
  cases r1
  obtain ⟨its, r, pl, hz⟩ := I1.list hq
  refine SL.made (I1.ok.hd hc) pl.isList (by simpa using strsAre_of r) (by unfold scanBound; omega) fun h' tk hS hk => args_nil ?_
  have I2 : Inv X pins σ H1 { s1 with heap := h', toks := tk } := I1.kept fun b o e => hk b o (Heap.lt_size e) e
  obtain ⟨o, es, ep, t, ho, hex, hd, _, _, _, hf, hn⟩ := hS
  rw [List.take_length] at hn
  have hle := apart_le xs.reverse
  rw [List.length_reverse] at hle
  refine call_len_set ho hex hd hf (by rw [hn]; omega) ⟨.int (apart xs.reverse), H1, I2.tok _, ⟨_, by rw [hn]⟩, q1⟩
theorem mkS_inj {a b : List Nat} (h : mkS a = mkS b) : a = b := by
  have := congrArg (fun x : Str => x.cps.toList) h
  simpa [mkS] using this
theorem apart_mkS : ∀ ss : List (List Nat), apart (ss.map mkS) = apart ss
  | [] => rfl
  | s :: ss => by
    have e : (ss.map mkS).any (· == mkS s) = ss.any (· == s) := by
      rw [List.any_map]
      congr 1
      funext z
      rw [Bool.eq_iff_iff]
      simp only [Function.comp, beq_iff_eq]
      exact ⟨mkS_inj, fun z => by rw [z]⟩
    show (if (ss.map mkS).any (· == mkS s) = true then apart (ss.map mkS) else apart (ss.map mkS) + 1) = if ss.any (· == s) = true then apart ss else apart ss + 1
    rw [e, apart_mkS ss]
def fLenSet : M → Option M := fun m => match litems m with
  | some ds => (match strL ds with
    | some ss => if ss.length ≤ 4000 then some (.dat (.int (apart ss.reverse))) else none
    | none => none)
  | none => none
theorem p_lenSet : P1 K (rLenSet K.K) fLenSet := fun F H v a as t Q hs ha e k => by
  unfold fLenSet at e
  split at e
  · rename_i ds e1
    split at e
    · rename_i ss e2
      split at e
      · rename_i hl
        cases e
        obtain ⟨p, vs, rfl, h1, h2⟩ := ha.items hs e1
        obtain rfl := strL_vals h2 e2
        refine ⟨p, ss.map mkS, rfl, .of h1, by simpa using hl, ?_⟩
        rw [← List.map_reverse, apart_mkS]
        exact same_dat hs (.int _) k
      · cases e
    · cases e
  · cases e
/-! ### sorted by length -/
def leLen (rev : Bool) (a b : List Nat) : Bool := if rev then decide (b.length ≤ a.length) else decide (a.length ≤ b.length)
def rSortLen (K : PySem.W.Frag) (rev : Bool) : V → Hp → VK → Prop := fun x H1 Q => ∃ l, ∃ ss : List (List Nat), x = .ref l ∧ SqL K H1 l ((ss.map mkS).map V.str) ∧ (∀ s ∈ ss, s.length ≤ 16000000) ∧ ss.length ≤ 100000 ∧
  ∀ p, H1 p = none → Q (.ref p) (upd H1 p (.lst (((ss.mergeSort (leLen rev)).map mkS).map V.str)))
def StrIs (v : Value) (s : List Nat) : Prop := ∃ t, v = .str (mkS s) t
theorem eachStr : ∀ {ss : List (List Nat)} {us : List Value}, Vals ((ss.map mkS).map V.str) us → PySem.W.EachIs StrIs us ss
  | [], _, .nil => .nil
  | s :: ss, _, .cons r t => by
    obtain ⟨k, rfl⟩ := r
    exact .cons ⟨k, rfl⟩ (eachStr t)
theorem eachVals : ∀ {ss : List (List Nat)} {us : List Value}, PySem.W.EachIs StrIs us ss → Vals ((ss.map mkS).map V.str) us
  | _, _, .nil => .nil
  | _, _, .cons ⟨t, e⟩ h => .cons ⟨t, e⟩ (eachVals h)
theorem sort_len {pins : List (Addr × Obj)} {s : Shared} {kw : List (Str × Value)} {rev : Bool} {v : Value} {x : V} {Q : VK} (hu : X.A.units + 2 < cLine) (I : Inv X pins σ H s) (r : RelV x v) (h : rSortLen X.K rev x H Q)
    (ha1 : argsOk "sorted" ⟨[v], kw⟩) (ha2 : ∀ a, argsOk "list.sort" ⟨[.ref a], kw⟩) (ht : ∀ a, Builtin.«list.sort» ⟨[.ref a], kw⟩ = ksk_tree a (.builtin "len") rev) :
    wpAny (model X.prog X.w) X.A (call (.builtin "sorted") [v] kw) (L2.EP X pins σ Q) X.xe s := by
  obtain ⟨l, ss, rfl, hq, small, few, q⟩ := h
  cases r
  obtain ⟨its, rv, pl, hz⟩ := I.list hq
  refine PySem.W.sorted_key_data (R := StrIs) (bs := ss) (b := rev) (fun s => .int (s.length : Int)) pl.isList (eachStr rv) ?_ ?_ ?_ ?_ ha1 ha2 ht ?_ ?_
  · intro d hd d' hd'
    obtain ⟨_, _, rfl⟩ := List.mem_map.mp hd
    obtain ⟨_, _, rfl⟩ := List.mem_map.mp hd'
    rfl
  · refine .inr fun d hd => ?_
    obtain ⟨_, _, rfl⟩ := List.mem_map.mp hd
    exact ⟨nofun, nofun⟩
  · exact big5 few
  · intro y _
    show X.A.units + 2 + PyData.depth (.int _) < cLine
    simp only [PyData.depth]
    exact hu
  · rintro u y ⟨t, rfl⟩ hy h1 tk keep
    refine PyProof.Rows.len_str (by
      have := small y hy
      rw [show (mkS y).length = y.length from str_eq y]
      omega) ⟨h1, _, rfl, fun b o e => e, ?_⟩
    rw [show (mkS y).length = y.length from str_eq y]
    exact Reads.int _ _
  · intro out c h' tk keep hn hnew hlen each
    have eq : PySem.W.dataLe rev (fun s : List Nat => (.int (s.length : Int) : PyData)) = leLen rev := by
      cases rev with
      | false =>
        rw [PySem.W.dataLe_int]
        funext a b
        unfold leLen
        simp only [Bool.false_eq_true, if_false, Int.ofNat_le]
      | true =>
        rw [PySem.W.dataGe_int]
        funext a b
        unfold leLen
        simp only [if_true, Int.ofNat_le]
    rw [eq] at each
    have fresh : H (s.heap.objs.size + 1) = none := I.hok.fresh (Nat.le_succ _)
    refine ⟨.ref _, _, I.laid (o := .lst (((ss.mergeSort (leLen rev)).map mkS).map V.str)) keep (Nat.le_succ _) ⟨?_, out, c, eachVals each, hnew⟩, rfl, q _ fresh⟩
    rw [List.length_map, List.length_map, List.length_mergeSort]
    exact big5 few
def rSortLenL (K : PySem.W.Frag) (rev : Bool) : List V → Hp → VK → Prop := fun vs H Q => ∃ x, vs = [x] ∧ rSortLen K rev x H Q
theorem pe_sortLen {a : PySem.Expr} {p p2 pos kpos : Pos} (hu : X.A.units + 2 < cLine) (hg : Gl X "sorted") (hm : X.mg "sorted" = none) (hg2 : Gl X "len") (hm2 : X.mg "len" = none) (ha : PE X a te)
    (he : backTo pos (starEach (a :: []) X.env) = (false, eval a X.env) :: backTo pos (starEach [] X.env) := by rfl) (hpl : (backTo pos (starEach (a :: []) X.env)).any (·.1) = false := by rfl) (hs : starEach (a :: []) X.env = (false, eval a X.env) :: starEach [] X.env := by rfl) :
    PE X (.Call (.Name "sorted" p) [a] [⟨some "key", .Name "len" p2, kpos⟩] pos) (tCB (rSortLenL X.K false) (tCons te tNil)) := by
  refine ⟨fun pins s σ H Q I h => wpAny_Call_Name_kw (ld_blt I hg hm boot_sorted (callWith_kw (thn ((pa_cons ha pa_nil hs).run pos pins s σ H _ I h) fun us s1 ⟨vs, H1, I1, r1, q1⟩ => ?_) he hpl rfl rfl))⟩
  obtain ⟨x, rfl, q1⟩ := q1
  obtain ⟨u, rfl, ru⟩ := vals1 r1
  show wpAny _ _ (evalAll [do let v ← eval (.Name "len" p2) X.env; standAt pos; pure v]) _ _ s1
  refine wpAny_evalAll_cons (wpAny_bind (ld_blt I1 hg2 hm2 boot_len (wpAny_bind (wpAny_standAt (wpAny_pure (wpAny_evalAll_nil ?_))))))
  exact sort_len hu I1 ru q1 (ksk_s1 _ _) (fun a => ksk_l1 _ _) fun a => rfl
theorem pe_sortLenR {a : PySem.Expr} {p p2 p3 pos kpos kpos2 : Pos} {j : Nat} {b : Bool} (hu : X.A.units + 2 < cLine) (hg : Gl X "sorted") (hm : X.mg "sorted" = none) (hg2 : Gl X "len") (hm2 : X.mg "len" = none) (ha : PE X a te)
    (he : backTo pos (starEach (a :: []) X.env) = (false, eval a X.env) :: backTo pos (starEach [] X.env) := by rfl) (hpl : (backTo pos (starEach (a :: []) X.env)).any (·.1) = false := by rfl) (hs : starEach (a :: []) X.env = (false, eval a X.env) :: starEach [] X.env := by rfl) :
    PE X (.Call (.Name "sorted" p) [a] [⟨some "key", .Name "len" p2, kpos⟩, ⟨some "reverse", .Constant (.bool b) j p3, kpos2⟩] pos) (tCB (rSortLenL X.K b) (tCons te tNil)) := by
  refine ⟨fun pins s σ H Q I h => wpAny_Call_Name_kw (ld_blt I hg hm boot_sorted (callWith_kw (thn ((pa_cons ha pa_nil hs).run pos pins s σ H _ I h) fun us s1 ⟨vs, H1, I1, r1, q1⟩ => ?_) he hpl rfl rfl))⟩
  obtain ⟨x, rfl, q1⟩ := q1
  obtain ⟨u, rfl, ru⟩ := vals1 r1
  show wpAny _ _ (evalAll [do let v ← eval (.Name "len" p2) X.env; standAt pos; pure v, do let v ← eval (.Constant (.bool b) j p3) X.env; standAt pos; pure v]) _ _ s1
  refine wpAny_evalAll_cons (wpAny_bind (ld_blt I1 hg2 hm2 boot_len (wpAny_bind (wpAny_standAt (wpAny_pure ?_)))))
  refine wpAny_evalAll_cons (wpAny_bind (Constant_bool (wpAny_bind (wpAny_standAt (wpAny_pure (wpAny_evalAll_nil ?_))))))
  exact sort_len hu I1 ru q1 (ksk_s2 _ _ _) (fun a => ksk_l2 _ _ _) fun a => rfl
def fSortLen (rev : Bool) : List M → Option M
  | [m] => (match litems m with
    | some ds => (match strL ds with
      | some ss => if ss.length ≤ 100000 ∧ (ss.all fun s => decide (s.length ≤ 16000000)) = true then some (.lst (((ss.mergeSort (leLen rev)).map D.str).map M.dat)) else none
      | none => none)
    | none => none)
  | _ => none
theorem DVs.strs : ∀ ss : List (List Nat), DVs K F ((ss.map mkS).map V.str) (ss.map D.str)
  | [] => .nil
  | s :: ss => .cons (.str' s) (DVs.strs ss)
theorem p_sortLen {rev : Bool} : PL K (rSortLenL K.K rev) (fSortLen rev) := fun F H vs ms t Q hs ho e k => by
  unfold fSortLen at e
  split at e
  · split at e
    · rename_i ds e1
      split at e
      · rename_i ss e2
        split at e
        · rename_i hl
          cases e
          obtain ⟨v, bs, rfl, ha⟩ := ho.one
          obtain ⟨p, vs, rfl, h1, h2⟩ := ha.items hs e1
          obtain rfl := strL_vals h2 e2
          exact ⟨_, rfl, p, ss, rfl, .of h1, fun s hs' => of_decide_eq_true (List.all_eq_true.mp hl.2 s hs'), hl.1, new_list hs (DVs.strs _) k⟩
        · cases e
      · cases e
    · cases e
  · cases e
end
end Y
/-! Y: defs told by what they promise; stores to tuples of names; calls with a fresh owned argument. -/
namespace Y
open PySem L2
variable [TabC]
/-- so many arguments -/
def ar (n : Nat) (f : List M → Option Rr) : List M → Option Rr := fun ms => if ms.length = n then f ms else none
theorem ar_len {n : Nat} {f : List M → Option Rr} (ms : List M) (o : Rr) (h : ar n f ms = some o) : ms.length = n := by
  unfold ar at h
  split at h
  · assumption
  · cases h
theorem ar_imp {n : Nat} {f f' : List M → Option Rr} (h : ∀ ms o, f ms = some o → f' ms = some o) (ms : List M) (o : Rr) (e : ar n f ms = some o) : f' ms = some o := by
  unfold ar at e
  split at e
  · exact h _ _ e
  · cases e
structure DefC (P : Program) (w : World) (K : PySem.W.Frag) (mg : Str → Option Value) (base : Heap) (CX : CXT) (x : Str) (k : Nat) (ps : List Str) (sp : Sp) : Prop where
  ex : ∃ (f : Addr) (fd : FuncData), FnOk P w K mg base CX k f fd ps sp ∧ mg x = some (.ref f) ∧ PySem.W.keepIn K (.ref f) = true ∧ Binds K fd ps []
structure DefM (P : Program) (w : World) (K : PySem.W.Frag) (mg : Str → Option Value) (base : Heap) (CX : CXT) (C : Addr) (m : Str) (k : Nat) (ps : List Str) (sp : Sp) : Prop where
  ex : ∃ (f : Addr) (fd : FuncData), FnOk P w K mg base CX k f fd ps sp ∧ Cls K C ∧ Meth K C m f ∧ Binds K fd ps []
structure DefI (P : Program) (w : World) (K : PySem.W.Frag) (mg : Str → Option Value) (base : Heap) (CX : CXT) (x : Str) (C : Addr) (k : Nat) (ps : List Str) (sp : Sp) : Prop where
  ex : ∃ (f : Addr) (fd : FuncData), FnOk P w K mg base CX k f fd ps sp ∧ Mk K C f ∧ mg x = some (.ref C) ∧ Binds K fd ps []
section
variable {X : Cx} {CX : CXT} {E : XK} {k j : Nat} {C : Addr} {x m : Str} {ps : List Str} {sp : Sp} {p pos apos : Pos} {e o : Expr} {es : List Expr} {ta : TE} {t : TA}
theorem pe_c (c : DefC X.prog X.w X.K X.mg X.base CX x k ps sp) (hr : Room j X.A) (hk : k ≤ j) (hg : Gl X x) (hx : Passes CX X E) (ha : PA X (e :: es) t)
    (hdb : (x == ("__debug__" : Str)) = false := by decide) (he : starEach (e :: es) X.env = (false, eval e X.env) :: starEach es X.env := by rfl) (hpl : (backTo pos (starEach es X.env)).any (·.1) = false := by rfl) :
    PE X (.Call (.Name x p) (e :: es) [] pos) (tCall sp [] E t) := by
  obtain ⟨f, fd, F, hm, kp, b⟩ := c.ex
  exact pe_call F (hr.mono hk) hg hm kp b .nil hx ha hdb he hpl
theorem pe_c0 (c : DefC X.prog X.w X.K X.mg X.base CX x k ps sp) (hr : Room j X.A) (hk : k ≤ j) (hg : Gl X x) (hx : Passes CX X E)
    (hdb : (x == ("__debug__" : Str)) = false := by decide) : PE X (.Call (.Name x p) [] [] pos) (tCall sp [] E tNil) := by
  obtain ⟨f, fd, F, hm, kp, b⟩ := c.ex
  exact pe_call0 F (hr.mono hk) hg hm kp b .nil hx hdb
theorem pe_i (c : DefI X.prog X.w X.K X.mg X.base CX x C k ps sp) (hr : Room j X.A) (hk : k + 1 ≤ j) (hg : Gl X x) (hx : Passes CX X E) (ha : PA X (e :: es) t)
    (hdb : (x == ("__debug__" : Str)) = false := by decide) (he : starEach (e :: es) X.env = (false, eval e X.env) :: starEach es X.env := by rfl) (hpl : (backTo pos (starEach es X.env)).any (·.1) = false := by rfl) :
    PE X (.Call (.Name x p) (e :: es) [] pos) (tMake C sp [] E t) := by
  obtain ⟨f, fd, F, M, hm, b⟩ := c.ex
  exact pe_make M F (hr.mono hk) hg hm b .nil hx ha hdb he hpl
theorem pe_mt {pl : Sem Bool} (c : DefM X.prog X.w X.K X.mg X.base CX C m k ps sp) (hr : Room j X.A) (hk : k ≤ j) (hx : Passes CX X E) (he : PE X o ta) (ha : PA X (e :: es) t)
    (hst : starEach (e :: es) X.env = (false, eval e X.env) :: starEach es X.env := by rfl) (hpl : (backTo pos (starEach es X.env)).any (·.1) = false := by rfl)
    (ht : eval (.Call (.Attribute o m apos) (e :: es) [] pos) X.env = (do
      let ov ← eval o X.env
      standAt apos.atName
      let (f, first) ← holding [ov] (getMethod ov m pl)
      callWith pos f first (backTo pos (starEach (e :: es) X.env)) (backToKw pos (keywordEach [] X.env))) := by rfl) :
    PE X (.Call (.Attribute o m apos) (e :: es) [] pos) (tMeth C m sp [] E ta t) := by
  obtain ⟨f, fd, F, hc, hm, b⟩ := c.ex
  exact pe_meth (pl := pl) he hc hm F (hr.mono hk) b .nil hx ha hst hpl ht
theorem pe_mt0 {pl : Sem Bool} (c : DefM X.prog X.w X.K X.mg X.base CX C m k ps sp) (hr : Room j X.A) (hk : k ≤ j) (hx : Passes CX X E) (he : PE X o ta)
    (ht : eval (.Call (.Attribute o m apos) [] [] pos) X.env = (do
      let ov ← eval o X.env
      standAt apos.atName
      let (f, first) ← holding [ov] (getMethod ov m pl)
      callWith pos f first (backTo pos (starEach [] X.env)) (backToKw pos (keywordEach [] X.env))) := by rfl) :
    PE X (.Call (.Attribute o m apos) [] [] pos) (tMeth C m sp [] E ta tNil) := by
  obtain ⟨f, fd, F, hc, hm, b⟩ := c.ex
  exact pe_meth0 (pl := pl) he hc hm F (hr.mono hk) b .nil hx ht
theorem hu64 {A : Around} (hr : Room k A) : A.units + 64 < cLine := by have := hr.un; omega
theorem hu65 {A : Around} (hr : Room k A) : A.units + 65 < cLine := by have := hr.un; omega
theorem hu2 {A : Around} (hr : Room k A) : A.units + 2 < cLine := by have := hr.un; omega
end
section
variable {K : Kx} {E : XK} {kp : Nat → Bool} {F F' F1 F2 H H' H1 H2 : Hp} {as as' as1 as2 bs : List Addr} {σ σ' σ1 : L2.St} {ρ : Env} {te : TE} {ta : TA}
theorem rn_asgT {gm : G D} {tg : TG} {st : D → G Unit} (he : EX K E kp te gm) (ht : JT K kp tg st) : RN K E kp (tAsg te tg) (gBind gm fun d => gBind (gCalm (st d)) fun _ => gSkip) := fun F H σ ρ as o D hs so e hx hp => by
  refine he.use hs so e hx fun d ρ1 F1 H1 as1 v g1 so1 r e1 => ?_
  obtain ⟨u, ρ2, e2, e3⟩ := gCalm_use e1
  refine ht F1 H1 σ ρ1 as1 v d _ _ g1.fh so1 r e2 fun ρ' e' σ' as' kk ha so' => ?_
  cases e'
  exact hp.nx _ (gRet_ok e3) F1 H1 σ' as' kk (g1.less ha) so'
def fI2 (g : Int → Int → Int) : M → M → Option M
  | .dat (.int i), .dat (.int j) => some (.dat (.int (g i j)))
  | _, _ => none
theorem p_ip {g : Int → Int → Int} : P2 K (ipI g) (fI2 g) := fun F H v w a b as bs t Q hs ha hb e k => by
  cases a <;> try (cases e)
  rename_i d
  cases d <;> try (cases e)
  cases b <;> try (cases e)
  rename_i d
  cases d <;> try (cases e)
  exact ⟨_, _, ha.dat_inv.1.int_inv, hb.dat_inv.1.int_inv, k F H _ [] (.refl hs) (.dat (.int _)) (by simp)⟩
/-! ### calls with a fresh owned argument -/
def AF (K : Kx) (E : XK) (kp : Nat → Bool) (ta : TA) (gs : G (List D × M × List D)) : Prop :=
  ∀ F H σ ρ as o Q, Same F H → SO K F H σ ρ as → gs ρ = some o → XP K E kp F H σ as o →
    (∀ ds m es ρ', o = .ok (ds, m, es) ρ' → ∀ F' H' as' rs vs v ws, Gr F H as F' H' (as' ++ rs) → SO K F' H' σ ρ' as' → DVs K F' vs ds → Own K F' H' v m rs → (∀ z ∈ rs, z ∉ as') → DVs K F' ws es → Q (vs ++ v :: ws) H') → ta σ H Q
def fHere (ge : G M) (gs : G (List D)) : G (List D × M × List D) := gBind ge fun m => gBind gs fun es => gRet ([], m, es)
def fNext (ge : G D) (gs : G (List D × M × List D)) : G (List D × M × List D) := gBind ge fun d => gBind gs fun p => gRet (d :: p.1, p.2.1, p.2.2)
theorem af_here {ge : G M} {gs : G (List D)} (h : EM K E kp te ge) (hr : EXs K E kp ta gs) : AF K E kp (tCons te ta) (fHere ge gs) := fun F H σ ρ as o Q hs so e hx k => by
  refine h.use hs so e hx fun m ρ1 F1 H1 as1 rs v g1 so1 ow n e1 => ?_
  refine hr.use g1.fh so1 e1 (hx.step (.refl _) g1.left) fun ds ρ2 F2 H2 as2 vs g2 so2 r2 e2 => ?_
  obtain rfl := gRet_ok e2
  have g12 : Gr F H as F2 H2 (as2 ++ rs) := g1.trans (g2.re g2.ff g2.fh (fun a z => List.mem_append_left _ z) (fun a z => by
    rcases List.mem_append.mp z with z | z
    · exact (g2.nw a z).imp (List.mem_append_left _) id
    · exact .inl (List.mem_append_right _ z)) (fun a e1 e2 q => g2.fz a e1 e2 fun z => q (List.mem_append_left _ z)))
  exact k [] m ds _ rfl F2 H2 as2 rs [] v vs g12 so2 .nil (ow.frame g2 n) (ow.apart g2 n) r2
theorem af_next {ge : G D} {gs : G (List D × M × List D)} (h : EX K E kp te ge) (hr : AF K E kp ta gs) : AF K E kp (tCons te ta) (fNext ge gs) := fun F H σ ρ as o Q hs so e hx k => by
  refine h.use hs so e hx fun d ρ1 F1 H1 as1 w g1 so1 r e1 => ?_
  rcases gBind_cases e1 with ⟨C, ρ', e2, eo⟩ | ⟨p, ρ', e2, eo⟩
  · exact hr F1 H1 σ ρ1 as1 _ _ g1.fh so1 e2 ((hx.step (.refl _) g1).to fun C' ρ'' e' => by rw [eo]; cases e'; rfl) fun ds i es ρ'' e' => by cases e'
  · obtain rfl := gRet_ok eo
    refine hr F1 H1 σ ρ1 as1 _ _ g1.fh so1 e2 (fun C' ρ'' e' => by cases e') fun ds i es ρ'' e' F' H' as' rs vs v ws g' so' r1 ow n r3 => ?_
    cases e'
    exact k (d :: ds) i es ρ' rfl F' H' as' rs (w :: vs) v ws (g1.trans g') so' (.cons (r.mono g'.ff) r1) ow n r3
def gCallT (calm : Bool) (j : Nat) (f : List M → Option Rr) (gs : G (List D × M × List D)) : G M := gBind gs fun p ρ => if p.1.length = j then (match f (p.1.map M.dat ++ p.2.1 :: p.2.2.map M.dat) with
  | some (.ok r _) => some (.ok r ρ)
  | some (.ex c _) => if calm then none else some (.ex c ρ)
  | none => none) else none
theorem em_callT {f : List M → Option Rr} {gs : G (List D × M × List D)} {calm : Bool} {j : Nat} {E' : XK} (hE : calm = true ∨ E' = E) (ha : AF K E kp ta gs) : EM K E kp (tCall (spM K (some j) f) [] E' ta) (gCallT calm j f gs) := fun F H σ ρ as o Q hs so e hx k => by
  rcases gBind_cases e with ⟨C, ρ', e2, eo⟩ | ⟨p, ρ1, e2, e1⟩
  · exact ha F H σ ρ as _ _ hs so e2 (hx.to fun C' ρ'' e' => by rw [eo]; cases e'; rfl) fun ds m es ρ'' e' => by cases e'
  refine ha F H σ ρ as _ _ hs so e2 (fun C' ρ'' e' => by cases e') fun ds m es ρ' e' F1 H1 as1 rs1 vs v ws g1 so1 r1 ow1 n1 r3 => ?_
  cases e'
  simp only at e1
  split at e1
  · rename_i hj
    subst hj
    rw [List.append_nil]
    cases ef : f (ds.map M.dat ++ m :: es.map M.dat) with
    | none => simp only [ef] at e1; cases e1
    | some of =>
      simp only [ef] at e1
      have key : ∀ {F' H' : Hp} {as' : List Addr}, Gr F1 H1 rs1 F' H' as' → SO K F' H' σ ρ1 as1 ∧ (∀ z ∈ as1, z ∉ as') := fun {F' H' as'} g' =>
        ⟨so1.frame g' fun b hb z => n1 b z hb, fun z hz y => (g'.nw z y).elim (fun q => n1 z q hz) fun q => (so1.has z hz).1 q⟩
      refine ⟨F1, _, _, of, g1.fh, so1.tab, owns_mid r1 ow1 r3, ef, fun r' m' eo F' H' as' rs v' g' oa ow n => ?_, fun c m' eo F' H' as' g' oa => ?_⟩
      · subst eo
        simp only at e1
        obtain ⟨q1, q2⟩ := key g'
        refine k r' ρ1 (Option.some.inj e1).symm F' H' as1 rs v' (g1.comp g' (fun a eh na z => ?_) (fun a z => ?_) (fun a ea eh na => g'.fz a (g1.fz a ea eh na) (g1.there eh na) fun z => ?_)) q1 ow fun z hz y => q2 z y (List.mem_append_right _ hz)
        · exact g1.out eh na (List.mem_append_right _ z)
        · have back : a ∉ as → H1 a = none → H a = none := fun na q => by
            exact g1.back0 na q
          rcases List.mem_append.mp z with z | z
          · exact (g1.nw a (List.mem_append_left _ z))
          · exact (g'.nw a (List.mem_append_right _ z)).elim (fun q => g1.nw a (List.mem_append_right _ q)) fun q => by
              by_cases na : a ∈ as
              · exact .inl na
              · exact .inr (back na q)
        · exact g1.out eh na (List.mem_append_right _ z)
      · subst eo
        simp only at e1
        obtain ⟨q1, q2⟩ := key g'
        split at e1
        · cases e1
        · rename_i hc
          rcases hE with h | h
          · exact absurd h hc
          · subst h
            refine hx c ρ1 (Option.some.inj e1).symm F' H' σ as1 (.refl _) (g1.comp g' (fun a eh na z => ?_) (fun a z => g1.nw a (List.mem_append_left _ z)) (fun a ea eh na => g'.fz a (g1.fz a ea eh na) (g1.there eh na) fun z => ?_)) q1
            · exact g1.out eh na (List.mem_append_right _ z)
            · exact g1.out eh na (List.mem_append_right _ z)
  · cases e1
end
end Y
/-! Y: short names for what the mirrors are made of. -/
namespace Y
open PySem L2
variable [TabC]
def gV (i : Nat) : Env → Option M := gP fun _ => some (.slot i)
def vS (i : Nat) : Env → Option Pth := fun _ => some (.slot i)
def xE (g : Env → Option M) : G D := gOf fun ρ => (g ρ).bind asDat
def xM (g : G M) : G D := gBind g fun m => gOpt m.view
def mE (g : G D) : G M := gBind g fun d => gRet (.dat d)
def sSet (i : Nat) (g : G D) : G Fl := gBind g fun d => gSet i (.dat d)
def sSetM (i : Nat) (g : G M) : G Fl := gBind g fun m => gSet i m
def sSetT (st : D → G Unit) (g : G D) : G Fl := gBind g fun d => gBind (gCalm (st d)) fun _ => gSkip
def sRet (g : G M) : G Fl := gBind g fun m => gRet (.rt m)
def sDrop (g : G M) : G Fl := gBind g fun _ => gSkip
def sIf (c : G Bool) (g k : G Fl) : G Fl := gBind c fun b => gIf b g k
def sFor (gi : G (List D)) (st : D → G Unit) (gb : G Fl) : G Fl := gBind gi fun ds => gForL st gb ds
def tX (g : G D) : G Bool := gBind g fun d => gOpt (asB d)
def tAndX (a b : G Bool) : G Bool := gBind a fun x => bif x then b else gRet false
def tOrX (a b : G Bool) : G Bool := gBind a fun x => bif x then gRet true else b
def tNotX (a : G Bool) : G Bool := gBind a fun x => gRet (!x)
def tYesX : G Bool := gRet true
def pRng1 (gs : Env → Option (List D)) : Env → Option (List D) := fun ρ => (gs ρ).bind rng1
def pRng2 (gs : Env → Option (List D)) : Env → Option (List D) := fun ρ => (gs ρ).bind rng2
def xRng1 (gs : G (List D)) : G (List D) := gBind gs fun ds => gOpt (rng1 ds)
def xRng2 (gs : G (List D)) : G (List D) := gBind gs fun ds => gOpt (rng2 ds)
def xItems (g : G D) : G (List D) := gBind g fun d => gOpt (itemsD d)
def iadd : M → M → Option M := fI2 fun i j => i + j
def isub : M → M → Option M := fI2 fun i j => i - j
abbrev rListOf (K : PySem.W.Frag) : List V → Hp → VK → Prop := fun xs H Q => ∃ p ys, xs = [.ref p] ∧ (SqL K H p ys ∨ SqT K H p ys) ∧ ∀ l, H l = none → Q (.ref l) (upd H l (.lst ys))
abbrev rTupOf (K : PySem.W.Frag) : List V → Hp → VK → Prop := fun xs H Q => ∃ p ys, xs = [.ref p] ∧ ((SqL K H p ys ∧ ∀ l, H l = none → Q (.ref l) (upd H l (.tup ys))) ∨ (SqT K H p ys ∧ Q (.ref p) H))
def asI : D → Option Int
  | .int i => some i
  | _ => none
theorem asI_ok {d : D} {i : Int} (h : asI d = some i) : d = .int i := by cases d <;> simp_all [asI]
def xoNo : G (Option Int) := gRet none
def xoAt (g : G D) : G (Option Int) := gBind g fun d => gOpt ((asI d).map some)
def xSlX (f : M → Option Int → Option Int → Option M) (g : G D) (lo hi : G (Option Int)) : G M := gBind g fun d => gBind lo fun l => gBind hi fun h => gOpt (f (.dat d) l h)
section
variable {K : Kx} {E : XK} {kp : Nat → Bool} {te : TE} {xa : G D}
abbrev XO (K : Kx) (E : XK) (kp : Nat → Bool) (t : TO) (g : G (Option Int)) : Prop := JD K E kp (fun _ (a b : Option Int) => a = b) t g
theorem xo_no : XO K E kp tNoPart xoNo := fun F H σ ρ as o Q hs so e hx k => k none ρ (gRet_ok e) F H as none (.refl hs) so rfl
theorem xo_at (h : EX K E kp te xa) : XO K E kp (tPart te) (xoAt xa) := fun F H σ ρ as o Q hs so e hx k => by
  refine h.use hs so e hx fun d ρ1 F1 H1 as1 v g1 so1 r1 e1 => ?_
  obtain ⟨x, e2, eo⟩ := gOpt_ok e1
  cases e3 : asI d with
  | none => rw [e3] at e2; cases e2
  | some i =>
    rw [e3] at e2
    cases e2
    cases asI_ok e3
    exact ⟨i, r1.int_inv, k (some i) ρ1 eo F1 H1 as1 (some i) g1 so1 rfl⟩
theorem em_slX {r : V → Option Int → Option Int → Hp → VK → Prop} {f : M → Option Int → Option Int → Option M} {tl th : TO} {lo hi : G (Option Int)} (p : PS3 K r f) (h : EX K E kp te xa) (hl : XO K E kp tl lo) (hh : XO K E kp th hi) : EM K E kp (L2.tSl r te tl th) (xSlX f xa lo hi) := fun F H σ ρ as o Q hs so e hx k => by
  refine h.use hs so e hx fun d ρ1 F1 H1 as1 v g1 so1 r1 e1 => ?_
  refine hl.use g1.fh so1 e1 (hx.step (.refl _) g1) fun l ρ2 F2 H2 as2 l' g2 so2 r2 e2 => ?_
  subst r2
  refine hh.use g2.fh so2 e2 (hx.step (.refl _) (g1.trans g2)) fun u ρ3 F3 H3 as3 u' g3 so3 r3 e3 => ?_
  subst r3
  obtain ⟨m, e4, eo⟩ := gOpt_ok e3
  have g23 := g2.trans g3
  exact p F3 H3 v _ [] _ _ m Q g3.fh (.dat (r1.mono g23.ff)) e4 (em_fin (t := m) so3 (g1.trans g23) eo k)
end
theorem spM.at {K : Kx} {E : XK} {H : Hp} {j : Option Nat} {np : Nat} {vs : List V} {Q : VK} {f : List M → Option Rr} (h : spM K j f vs H Q E) (hf : ∀ ms o, f ms = some o → ms.length = np := by exact ar_len) : vs.length = np := by
  obtain ⟨F, ms, as, o, _, _, ho, e, _⟩ := h
  rw [ho.len, hf _ _ e]
end Y
/-! Y: in a tuple; extend; x.f += e. -/
namespace Y
open PySem L2
variable [TabC]
section
variable {K : Kx} {E : XK} {kp : Nat → Bool} {F F' F1 F2 H H' H1 H2 : Hp} {as as' as1 as2 bs : List Addr} {σ σ' σ1 : L2.St} {ρ : Env} {te tl to : TE} {ta : TA}
theorem scal_flat {v : V} {d : D} (h : DV K F v d) (s : scal d = true) : flatV v = true := by
  cases h <;> first | rfl | (simp [scal] at s)
theorem scal_eqV {v w : V} {d e : D} (h : DV K F v d) (h2 : DV K F' w e) (s : scal d = true) (s2 : scal e = true) : eqV v w = peq d e := by
  cases h <;> cases h2 <;> first | (simp [scal] at s; done) | (simp [scal] at s2; done) | (simp only [eqV, peq]; done) | (rename_i x y; simp only [eqV, peq]; exact (PyProof.Rows.toList_beq x y).symm)
theorem scal_any {v : V} {d : D} (h : DV K F' v d) (s : scal d = true) : ∀ {vs : List V} {ds : List D}, DVs K F vs ds → ds.all scal = true → vs.all flatV = true ∧ inV v vs = ds.any fun z => peq z d
  | _, _, .nil, _ => ⟨rfl, rfl⟩
  | _, d1 :: ds, .cons h1 hs, q => by
    rw [List.all_cons, Bool.and_eq_true] at q
    obtain ⟨q1, q2⟩ := scal_any h s hs q.2
    refine ⟨by rw [List.all_cons, scal_flat h1 q.1, q1]; rfl, ?_⟩
    unfold inV at q2 ⊢
    rw [List.any_cons, List.any_cons, q2, scal_eqV h1 h q.1 s]
def fInT : M → M → Option M
  | .dat d, .dat (.tup ds) => if scal d = true ∧ ds.all scal = true then some (.dat (.bl (ds.any fun z => peq z d))) else none
  | _, _ => none
def fNotInT : M → M → Option M
  | .dat d, .dat (.tup ds) => if scal d = true ∧ ds.all scal = true then some (.dat (.bl (!(ds.any fun z => peq z d)))) else none
  | _, _ => none
theorem p_inT : P2 K (rIn K.K false) fInT := fun F H v w a b as bs t Q hs ha hb e k => by
  unfold fInT at e
  split at e
  · rename_i d ds
    split at e
    · rename_i hc
      cases e
      obtain ⟨p, xs, rfl, hq, r⟩ := hb.dat_inv.1.tup_inv
      obtain ⟨q1, q2⟩ := scal_any ha.dat_inv.1 hc.1 r hc.2
      refine ⟨p, xs, rfl, .inr (SqT.mono hs hq), scal_flat ha.dat_inv.1 hc.1, q1, ?_⟩
      simp only [Bool.false_eq_true, if_false, q2]
      exact same_dat hs (.bl _) k
    · cases e
  · cases e
theorem p_notInT : P2 K (rIn K.K true) fNotInT := fun F H v w a b as bs t Q hs ha hb e k => by
  unfold fNotInT at e
  split at e
  · rename_i d ds
    split at e
    · rename_i hc
      cases e
      obtain ⟨p, xs, rfl, hq, r⟩ := hb.dat_inv.1.tup_inv
      obtain ⟨q1, q2⟩ := scal_any ha.dat_inv.1 hc.1 r hc.2
      refine ⟨p, xs, rfl, .inr (SqT.mono hs hq), scal_flat ha.dat_inv.1 hc.1, q1, ?_⟩
      simp only [if_true, q2]
      exact same_dat hs (.bl _) k
    · cases e
  · cases e
/-- x.extend(a list), x at a path -/
def gExt (pf : Env → Option Pth) (ge : Env → Option M) : G Fl := fun ρ => match pf ρ with
  | some p => (match getP ρ p, ge ρ with
    | some (.lst ms), some m => (match litems m with
      | some ds => if ms.length + ds.length ≤ 100000 then some (.ok .nx (putP ρ p (.lst (ms ++ ds.map M.dat)))) else none
      | none => none)
    | _, _ => none)
  | none => none
theorem Owns.appDats : ∀ {vs : List V} {ms : List M} {as : List Addr} {ws : List V} {ds : List D}, Owns K F H vs ms as → DVs K F ws ds → Owns K F H (vs ++ ws) (ms ++ ds.map M.dat) as
  | _, _, _, ws, ds, .nil, r => Owns.dats r
  | _, _, _, ws, ds, .cons h hs n, r => .cons h (Owns.appDats hs r) n
theorem rn_ext {pf : Env → Option Pth} {ge : Env → Option M} (hp : LP K tl pf) (he : EP K te ge) : RN K E kp (tDrop (tBM K.K "list" rExtend tl (tCons te tNil))) (gExt pf ge) := fun F H σ ρ as o D hs so e hx hpost => by
  unfold gExt at e
  split at e
  case h_2 => cases e
  rename_i p e1
  split at e
  case h_2 => cases e
  rename_i ms m em ed
  split at e
  case h_2 => cases e
  rename_i ds eds
  split at e
  case isFalse => cases e
  rename_i hl
  refine hp F H σ ρ as p _ _ hs so e1 em fun F1 H1 v bs g1 fo => ?_
  refine ⟨?_, ?_⟩
  · have ho := fo.own
    cases ho with
    | lst ha fa hv n => exact ty_list ha
  · refine he F1 H1 σ ρ as _ _ g1.fh (so.grow g1) ed fun F2 H2 w rs g2 r => ?_
    show rExtend v [w] H2 (fun _ H1 => D.nx σ H1)
    obtain ⟨b, ws, rfl, hb, rw_⟩ := r.items g2.fh eds
    have fo2 := fo.grow g2
    have ho := fo2.own
    cases ho with
    | lst ha fa hv n =>
      rename_i a vs xs
      refine ⟨a, b, vs, ws, rfl, rfl, ha, hb, Nat.le_trans (by rw [hv.len, rw_.length]; exact hl) (by decide), ?_⟩
      have gm : Gr F2 H2 (a :: xs) F2 (upd H2 a (.lst (vs ++ ws))) (a :: xs) := Gr.mut g2.fh fa List.mem_cons_self
      have gm1 : Gr F2 H2 [a] F2 (upd H2 a (.lst (vs ++ ws))) [a] := Gr.mut g2.fh fa (by simp)
      have hv' : Owns K F2 (upd H2 a (.lst (vs ++ ws))) vs ms xs := hv.frame gm1 fun b hb z => n (by rw [List.mem_singleton.mp z] at hb; exact hb)
      have own' : Own K F2 (upd H2 a (.lst (vs ++ ws))) (.ref a) (.lst (ms ++ ds.map M.dat)) (a :: xs) := .lst upd_same fa (hv'.appDats rw_) n
      obtain ⟨as3, w1, w2, _⟩ := fo2.put' gm own'
      exact hpost.nx _ (Option.some.inj e).symm F2 _ σ as3 (.refl _) (((g1.trans g2).weak as).trans w2) w1
/-- x.f += e (whole numbers), e told purely -/
def gFAug (c : Nat) (f : Str) (op : Int → Int → Int) (pf : Env → Option Pth) (ge : Env → Option M) : G Fl := fun ρ => match pf ρ with
  | some p => (match getP ρ p, ge ρ with
    | some (.obj c' fs), some (.dat (.int j)) => (match lookM f fs with
      | some (.dat (.int i)) => if c' = c ∧ fs.length < 1000 then some (.ok .nx (putP ρ p (.obj c (putM f (.dat (.int (op i j))) fs)))) else none
      | _ => none)
    | _, _ => none)
  | none => none
theorem rn_faug {c : Nat} {f : Str} {op : Int → Int → Int} {rd : V → V → Hp → VK → Prop} (hrd : ∀ (i j : Int) (H : Hp) (Q : VK), Q (.int (op i j)) H → rd (.int i) (.int j) H Q) {pf : Env → Option Pth} {ge : Env → Option M} (cl : Cls K.K (K.ca c)) (na : NoAttr K.K (K.ca c) f) (he : EP K te ge) (hp : LP K to pf) : RN K E kp (sFldAug K.K to te rd f) (gFAug c f op pf ge) := fun F H σ ρ as o D hs so e hx hpost => by
  unfold gFAug at e
  split at e
  case h_2 => cases e
  rename_i p e2
  split at e
  case h_2 => cases e
  rename_i c' fs j em ed
  split at e
  case h_2 => cases e
  rename_i i el
  split at e
  case isFalse => cases e
  rename_i hc
  obtain ⟨hc, hlen⟩ := hc
  subst hc
  refine hp F H σ ρ as p _ _ hs so e2 em fun F1 H1 v bs g1 fo1 => ?_
  have ho1 := fo1.own
  cases ho1 with
  | obj ha1 hd1 fa1 fd1 en hv1 n1 n2 n3 =>
    rename_i a dx fvs xs
    obtain ⟨u, ms, hlk, hu, _, _⟩ := fields_at en hv1 el
    have hui := hu.dat_inv.1.int_inv
    subst hui
    refine ⟨a, _, dx, fvs, _, rfl, ha1, cl, na, hlk, ?_⟩
    refine he F1 H1 σ ρ as _ _ g1.fh (so.grow g1) ed fun F2 H2 w rs g2 r => ?_
    have hw := r.dat_inv.1.int_inv
    subst hw
    refine hrd i j H2 _ ?_
    have fo := fo1.grow g2
    have ho := fo.own
    have hl2 : fvs.length = fs.length := by
      have := congrArg List.length en
      simpa using this
    have ha : H2 a = some (.ins (K.ca c') dx fvs) := g2.hh a _ ha1 (by simp)
    have hd : H2 dx = some (.own a) := g2.hh dx _ hd1 (by simp)
    have fa : F2 a = none := g2.fz a fa1 (by rw [ha1]; simp) (by simp)
    have fd : F2 dx = none := g2.fz dx fd1 (by rw [hd1]; simp) (by simp)
    have hv := hv1.grow g2
    refine ⟨dx, fvs, ha, by rw [hl2]; exact hlen, ?_⟩
    have gm1 : Gr F2 H2 [a] F2 (upd H2 a (.ins (K.ca c') dx (putF f (V.int (op i j)) fvs))) [a] := Gr.mut g2.fh fa (by simp)
    have hv' := hv.frame gm1 fun b hb z => n1 (by rw [List.mem_singleton.mp z] at hb; exact hb)
    have r' : Own K F2 (upd H2 a (.ins (K.ca c') dx (putF f (V.int (op i j)) fvs))) (.int (op i j)) (.dat (.int (op i j))) [] := .dat (.int _)
    obtain ⟨cs, q1, q2, q3⟩ := put_fields (f := f) en hv' r' (by simp)
    have own' : Own K F2 (upd H2 a (.ins (K.ca c') dx (putF f (V.int (op i j)) fvs))) (.ref a) (.obj c' (putM f (.dat (.int (op i j))) fs)) (a :: dx :: cs) := by
      refine .obj upd_same (by rw [upd_ne n3.symm]; exact hd) fa fd q1 q2 (fun z => ?_) (fun z => ?_) n3
      · exact (q3 a z).elim n1 (by simp)
      · exact (q3 dx z).elim n2 (by simp)
    have gm : Gr F2 H2 (a :: dx :: xs) F2 (upd H2 a (.ins (K.ca c') dx (putF f (V.int (op i j)) fvs))) (a :: dx :: xs) := Gr.mut g2.fh fa List.mem_cons_self
    obtain ⟨as3, w1, w2, _⟩ := fo.put' (gm.less fun b z => by
      rcases List.mem_cons.mp z with z | z
      · rw [z]; simp
      · rcases List.mem_cons.mp z with z | z
        · rw [z]; simp
        · have := (q3 b z).elim id (by simp)
          simp [this]) own'
    exact hpost.nx _ (Option.some.inj e).symm F2 _ σ as3 (.refl _) (((g1.trans g2).weak as).trans w2) w1
theorem rd_add (i j : Int) (H : Hp) (Q : VK) (h : Q (.int (i + j)) H) : rAdd (.int i) (.int j) H Q := ⟨i, j, rfl, rfl, h⟩
theorem rd_sub (i j : Int) (H : Hp) (Q : VK) (h : Q (.int (i - j)) H) : rSub (.int i) (.int j) H Q := ⟨i, j, rfl, rfl, h⟩
end
end Y
/-! Y: a, b = a list. -/
namespace Y
open PySem L2
variable [TabC]
def gToLst (n : Nat) (s : List D → G Unit) : D → G Unit
  | .lst ds => if ds.length = n then s ds else fun _ => none
  | _ => fun _ => none
theorem jt_unl {K : Kx} {kp : Nat → Bool} {n : Nat} {gs : TGs} {r : List D → G Unit} (h : JTs K kp gs r) : JT K kp (gUnl K.K n gs) (gToLst n r) := fun F H σ ρ as v d o Q hs so rv e k => by
  unfold gToLst at e
  split at e
  · rename_i ds
    split at e
    · rename_i hl
      obtain ⟨a, xs, rfl, ha, rx⟩ := rv.lst_inv
      exact ⟨a, xs, rfl, .of (hs _ _ ha), by rw [rx.length, hl], h F H σ ρ as xs ds o Q hs so rx e k⟩
    · cases e
  · cases e
end Y
/-! Y: a text times a number. -/
namespace Y
open PySem L2
variable [TabC]
def rMulS : R2 := fun x y H Q => ∃ (z : Str) (n : Int), x = .str z ∧ y = .int n ∧ MulOk z n ∧ Q (.str (Txt.mul z n)) H
section
variable {X : Cx} {K : Kx}
theorem op_mulS : OpR X (binaryOp .Mult) rMulS := by
  intro pins s σ H x y v u Q I rx ry h
  obtain ⟨z, n, rfl, rfl, hm, q⟩ := h
  obtain ⟨t, rfl⟩ := rx
  obtain ⟨t', rfl⟩ := ry
  exact SB.mul hm fun t' k => ⟨.str (Txt.mul z n), H, I.tok _, ⟨_, rfl⟩, q⟩
theorem fold_app (a : Array Nat) : ∀ (m : Nat) (acc : Array Nat), ((List.replicate m a).foldl (· ++ ·) acc).toList = acc.toList ++ (List.replicate m a.toList).flatten
  | 0, acc => by simp
  | m + 1, acc => by
    rw [List.replicate_succ, List.foldl_cons, fold_app a m, List.replicate_succ, List.flatten_cons, Array.toList_append, List.append_assoc]
theorem mul_tl {x : Str} {n : Int} (h : 0 ≤ n) : (Txt.mul x n).cps.toList = (List.replicate n.toNat x.cps.toList).flatten := by
  unfold Txt.mul
  by_cases h1 : n < 1
  · rw [if_pos h1]
    have : n = 0 := by omega
    subst this
    rfl
  · rw [if_neg h1]
    by_cases h2 : (n == 1 || x.length == 0) = true
    · rw [if_pos h2]
      rw [Bool.or_eq_true, beq_iff_eq, beq_iff_eq] at h2
      rcases h2 with h2 | h2
      · subst h2; simp
      · have : x.cps.toList = [] := by
          have e : x.cps.size = 0 := h2
          exact List.eq_nil_of_length_eq_zero (by simpa using e)
        rw [this]
        induction n.toNat with
        | zero => rfl
        | succ k ih => rw [List.replicate_succ, List.flatten_cons, ← ih]; rfl
    · rw [if_neg h2]
      show ((List.replicate n.toNat x.cps).foldl (· ++ ·) #[]).toList = _
      rw [fold_app]
      rfl
def fMulS : M → M → Option M
  | .dat (.str s), .dat (.int k) => if 0 ≤ k ∧ k ≤ 100000 ∧ s.length * k.toNat ≤ 16000000 then some (.dat (.str (List.replicate k.toNat s).flatten)) else none
  | _, _ => none
theorem p_mulS : P2 K rMulS fMulS := fun F H v w a b as bs t Q hs ha hb e k => by
  unfold fMulS at e
  split at e
  · rename_i s n
    split at e
    · rename_i hc
      obtain ⟨h0, h1, h2⟩ := hc
      cases e
      obtain ⟨z, rfl, rfl⟩ := ha.dat_inv.1.str_inv
      cases hb.dat_inv.1.int_inv
      have hl : z.length = z.cps.toList.length := by show z.cps.size = _; simp
      refine ⟨z, n, rfl, rfl, ⟨?_, fun h3 h4 => ?_, fun h3 h4 => ?_⟩, ?_⟩
      · have a1 : ¬ n < -(2 ^ 63 : Int) := by omega
        have a2 : ¬ n ≥ 2 ^ 63 := by omega
        rw [decide_eq_false a1, decide_eq_false a2]; rfl
      · have hn : 0 < n := by omega
        have hm : (z.length : Int) * n ≤ 2 ^ 63 - 1 := by
          have e1 : ((z.length * n.toNat : Nat) : Int) = (z.length : Int) * n := by
            rw [Int.natCast_mul, Int.toNat_of_nonneg h0]
          rw [← e1, hl]
          omega
        have := (Int.le_ediv_iff_mul_le hn).mpr hm
        omega
      · rw [hl]
        show decide (_ > sizeLine) = false
        rw [decide_eq_false_iff_not]
        have : sizeLine = 16777216 := rfl
        omega
      · have := mul_tl (x := z) h0
        rw [← this] at k
        exact same_dat hs (.str _) k
    · cases e
  · cases e
end
end Y
/-! Y: what mirrors answer, asked from behind. -/
namespace Y
open PySem L2
/-- no tables, where none are told. -/
instance tab0 : TabC := ⟨[]⟩
def T {α : Type} (g : G α) (ρ : Env) (Φ : α → Env → Prop) : Prop := match g ρ with
  | some (.ok a ρ') => Φ a ρ'
  | _ => False
def Tp {α : Type} (o : Option α) (Φ : α → Prop) : Prop := match o with
  | some a => Φ a
  | none => False
def TF (f : List M → Option Rr) (ms : List M) (Φ : M → Option M → Prop) : Prop := match f ms with
  | some (.ok r m') => Φ r m'
  | _ => False
section
variable {α β : Type} {ρ : Env} {Φ : α → Env → Prop} {Ψ : α → Prop}
theorem T_congr {g g' : G α} (h : g ρ = g' ρ) : T g ρ Φ ↔ T g' ρ Φ := by unfold T; rw [h]
theorem T.mono {g : G α} {Φ Φ' : α → Env → Prop} (h : T g ρ Φ) (k : ∀ a ρ', Φ a ρ' → Φ' a ρ') : T g ρ Φ' := by
  unfold T at h ⊢
  split at h
  · exact k _ _ h
  · exact h.elim
theorem Tp.mono {o : Option α} {Φ Φ' : α → Prop} (h : Tp o Φ) (k : ∀ a, Φ a → Φ' a) : Tp o Φ' := by
  cases o with
  | none => exact h.elim
  | some a => exact k a h
theorem TF.mono {f : List M → Option Rr} {ms : List M} {Φ Φ' : M → Option M → Prop} (h : TF f ms Φ) (k : ∀ a ρ', Φ a ρ' → Φ' a ρ') : TF f ms Φ' := by
  unfold TF at h ⊢
  split at h
  · exact k _ _ h
  · exact h.elim
theorem TF.eq {f : List M → Option Rr} {ms : List M} {r : M} {m : Option M} (h : TF f ms fun a b => a = r ∧ b = m) : f ms = some (.ok r m) := by
  unfold TF at h
  split at h
  · rename_i e; rw [e, h.1, h.2]
  · exact h.elim
theorem TF.of {f : List M → Option Rr} {ms : List M} {r : M} {m : Option M} {Φ : M → Option M → Prop} (e : f ms = some (.ok r m)) (h : Φ r m) : TF f ms Φ := by unfold TF; rw [e]; exact h
@[simp] theorem Tp_some {a : α} : Tp (some a) Ψ ↔ Ψ a := Iff.rfl
@[simp] theorem Tp_none : Tp (none : Option α) Ψ ↔ False := Iff.rfl
@[simp] theorem Tp_ite {c : Prop} [Decidable c] {a : α} : Tp (if c then some a else none) Ψ ↔ c ∧ Ψ a := by
  split
  · rename_i h; simp [h]
  · rename_i h; simp [h]
@[simp] theorem Tp_map {f : β → α} {o : Option β} : Tp (o.map f) Ψ ↔ Tp o fun b => Ψ (f b) := by cases o <;> simp
@[simp] theorem Tp_bind {f : β → Option α} {o : Option β} : Tp (o.bind f) Ψ ↔ Tp o fun b => Tp (f b) Ψ := by cases o <;> simp
theorem Tp_of {o : Option α} {a : α} (e : o = some a) (h : Ψ a) : Tp o Ψ := by rw [e]; exact h
@[simp] theorem T_bind {g : G β} {k : β → G α} : T (gBind g k) ρ Φ ↔ T g ρ fun b ρ' => T (k b) ρ' Φ := by
  unfold T gBind
  cases e : g ρ with
  | none => simp
  | some r => cases r <;> simp
@[simp] theorem T_ret {a : α} : T (gRet a) ρ Φ ↔ Φ a ρ := Iff.rfl
@[simp] theorem T_opt {o : Option α} : T (gOpt o) ρ Φ ↔ Tp o fun a => Φ a ρ := by cases o <;> simp [T, gOpt]
@[simp] theorem T_of {p : Env → Option α} : T (gOf p) ρ Φ ↔ Tp (p ρ) fun a => Φ a ρ := by
  unfold T gOf
  cases p ρ <;> simp
@[simp] theorem T_calm {g : G α} : T (gCalm g) ρ Φ ↔ T g ρ Φ := by
  unfold T gCalm
  cases g ρ with
  | none => simp
  | some r => cases r <;> simp
end
section
variable {ρ : Env} {Φ : Fl → Env → Prop}
@[simp] theorem T_set {i : Nat} {m : M} : T (gSet i m) ρ Φ ↔ Φ .nx (ρ.set i (some m)) := Iff.rfl
@[simp] theorem T_skip : T gSkip ρ Φ ↔ Φ .nx ρ := Iff.rfl
@[simp] theorem T_then {g k : G Fl} : T (gThen g k) ρ Φ ↔ T g ρ fun f ρ' => match f with
    | .nx => T k ρ' Φ
    | .bk => Φ .bk ρ'
    | .ct => Φ .ct ρ'
    | .rt m => Φ (.rt m) ρ' := by
  unfold gThen
  rw [T_bind]
  constructor
  · intro h
    refine T.mono h fun a ρ' q => ?_
    cases a <;> exact q
  · intro h
    refine T.mono h fun a ρ' q => ?_
    cases a <;> exact q
@[simp] theorem T_gIf {b : Bool} {g k : G Fl} : T (gIf b g k) ρ Φ ↔ (b = true → T g ρ Φ) ∧ (b = false → T k ρ Φ) := by cases b <;> simp [gIf]
@[simp] theorem T_sIf {c : G Bool} {g k : G Fl} : T (sIf c g k) ρ Φ ↔ T c ρ fun b ρ' => (b = true → T g ρ' Φ) ∧ (b = false → T k ρ' Φ) := by simp [sIf]
@[simp] theorem T_sSet {i : Nat} {g : G D} : T (sSet i g) ρ Φ ↔ T g ρ fun d ρ' => Φ .nx (ρ'.set i (some (.dat d))) := by simp [sSet]
@[simp] theorem T_sSetM {i : Nat} {g : G M} : T (sSetM i g) ρ Φ ↔ T g ρ fun d ρ' => Φ .nx (ρ'.set i (some d)) := by simp [sSetM]
@[simp] theorem T_sSetT {st : D → G Unit} {g : G D} : T (sSetT st g) ρ Φ ↔ T g ρ fun d ρ' => T (st d) ρ' fun _ ρ2 => Φ .nx ρ2 := by simp [sSetT]
@[simp] theorem T_sRet {g : G M} : T (sRet g) ρ Φ ↔ T g ρ fun m ρ' => Φ (.rt m) ρ' := by simp [sRet]
@[simp] theorem T_sDrop {g : G M} : T (sDrop g) ρ Φ ↔ T g ρ fun _ ρ' => Φ .nx ρ' := by simp [sDrop]
@[simp] theorem T_sFor {gi : G (List D)} {st : D → G Unit} {gb : G Fl} : T (sFor gi st gb) ρ Φ ↔ T gi ρ fun ds ρ' => T (gForL st gb ds) ρ' Φ := by simp [sFor]
end
/-- what stands in a slot -/
def getS : Env → Nat → Option M
  | [], _ => none
  | x :: _, 0 => x
  | _ :: ρ, i + 1 => getS ρ i
@[simp] theorem getS_nil {i : Nat} : getS [] i = none := rfl
@[simp] theorem getS_zero {x : Option M} {ρ : Env} : getS (x :: ρ) 0 = x := rfl
@[simp] theorem getS_succ {x : Option M} {ρ : Env} {i : Nat} : getS (x :: ρ) (i + 1) = getS ρ i := rfl
theorem getS_eq : ∀ {ρ : Env} {i : Nat}, getS ρ i = (match ρ[i]? with
    | some (some m) => some m
    | _ => none)
  | [], _ => by simp
  | none :: _, 0 => by simp
  | some m :: _, 0 => by simp
  | x :: ρ, i + 1 => by simp [getS_eq (ρ := ρ) (i := i)]
theorem getP_slot {ρ : Env} {i : Nat} : getP ρ (.slot i) = getS ρ i := by rw [getS_eq]; rfl
section
variable {α : Type} {ρ : Env} {Ψ : M → Prop}
@[simp] theorem gV_eq {i : Nat} : gV i ρ = getS ρ i := by unfold gV gP; exact getP_slot
@[simp] theorem cM_eq {m : M} : cM m ρ = some m := rfl
@[simp] theorem Tp_n2 {f : M → M → Option M} {ga gb : Env → Option M} : Tp (n2 f ga gb ρ) Ψ ↔ Tp (ga ρ) fun a => Tp (gb ρ) fun b => Tp (f a b) Ψ := by
  unfold n2
  cases ga ρ <;> cases gb ρ <;> simp
@[simp] theorem Tp_n1 {f : M → Option M} {ga : Env → Option M} : Tp (n1 f ga ρ) Ψ ↔ Tp (ga ρ) fun a => Tp (f a) Ψ := by
  unfold n1
  cases ga ρ <;> simp
@[simp] theorem Tp_nL {f : List M → Option M} {gs : Env → Option (List M)} : Tp (nL f gs ρ) Ψ ↔ Tp (gs ρ) fun a => Tp (f a) Ψ := by
  unfold nL
  cases gs ρ <;> simp
@[simp] theorem Tp_nB {f : M → List M → Option M} {g : Env → Option M} {gs : Env → Option (List M)} : Tp (nB f g gs ρ) Ψ ↔ Tp (g ρ) fun a => Tp (gs ρ) fun b => Tp (f a b) Ψ := by
  unfold nB
  cases g ρ <;> cases gs ρ <;> simp
@[simp] theorem Tp_nM1 {f : List Nat → List M → Option M} {g ga : Env → Option M} : Tp (nM1 f g ga ρ) Ψ ↔ Tp (g ρ) fun a => Tp (ga ρ) fun b => Tp (asDat a) fun d => (match d with
    | .str s => Tp (f s [b]) Ψ
    | _ => False) := by
  unfold nM1
  cases g ρ with
  | none => simp
  | some a =>
    cases ga ρ with
    | none => simp
    | some b =>
      cases a <;> simp [asDat]
      rename_i d
      cases d <;> simp
theorem psNil_eq : psNil ρ = some [] := rfl
theorem pNil_eq : pNil ρ = some [] := rfl
@[simp] theorem Tp_psNil {Ψ : List M → Prop} : Tp (psNil ρ) Ψ ↔ Ψ [] := Iff.rfl
@[simp] theorem Tp_pNil {Ψ : List D → Prop} : Tp (pNil ρ) Ψ ↔ Ψ [] := Iff.rfl
@[simp] theorem Tp_psCons {g : Env → Option M} {r : Env → Option (List M)} {Ψ : List M → Prop} : Tp (psCons g r ρ) Ψ ↔ Tp (g ρ) fun m => Tp (r ρ) fun ms => Ψ (m :: ms) := by
  unfold psCons
  cases g ρ <;> cases r ρ <;> simp
@[simp] theorem asDat_dat {d : D} : asDat (.dat d) = some d := rfl
@[simp] theorem Tp_pCons {g : Env → Option M} {r : Env → Option (List D)} {Ψ : List D → Prop} : Tp (pCons g r ρ) Ψ ↔ Tp (g ρ) fun m => Tp (asDat m) fun d => Tp (r ρ) fun ms => Ψ (d :: ms) := by
  unfold pCons
  cases g ρ with
  | none => simp
  | some m => cases m <;> simp [asDat] <;> cases r ρ <;> simp
@[simp] theorem Tp_nTup {gs : Env → Option (List D)} : Tp (nTup gs ρ) Ψ ↔ Tp (gs ρ) fun ds => ds.length ≤ 1000 ∧ Ψ (.dat (.tup ds)) := by
  unfold nTup
  cases gs ρ <;> simp
@[simp] theorem Tp_nLst {gs : Env → Option (List D)} : Tp (nLst gs ρ) Ψ ↔ Tp (gs ρ) fun ds => ds.length ≤ 1000 ∧ Ψ (.lst (ds.map M.dat)) := by
  unfold nLst
  cases gs ρ <;> simp
@[simp] theorem Tp_oNo {Ψ : Option Int → Prop} : Tp (oNo ρ) Ψ ↔ Ψ none := Iff.rfl
@[simp] theorem Tp_oAt {g : Env → Option M} {Ψ : Option Int → Prop} : Tp (oAt g ρ) Ψ ↔ Tp (g ρ) fun m => Tp (asDat m) fun d => Tp (asI d) fun i => Ψ (some i) := by
  unfold oAt
  cases g ρ with
  | none => simp
  | some m =>
    cases m <;> simp [asDat]
    rename_i d
    cases d <;> simp [asI]
@[simp] theorem asI_int {i : Int} : asI (.int i) = some i := rfl
@[simp] theorem asB_bl {b : Bool} : asB (.bl b) = some b := rfl
@[simp] theorem Tp_nSl {f : M → Option Int → Option Int → Option M} {g : Env → Option M} {lo hi : Env → Option (Option Int)} : Tp (nSl f g lo hi ρ) Ψ ↔ Tp (g ρ) fun m => Tp (lo ρ) fun l => Tp (hi ρ) fun h => Tp (f m l h) Ψ := by
  unfold nSl
  cases g ρ <;> cases lo ρ <;> cases hi ρ <;> simp
@[simp] theorem Tp_tB' {g : Env → Option M} {Ψ : Bool → Prop} : Tp (tB' g ρ) Ψ ↔ Tp (g ρ) fun m => Tp (asDat m) fun d => Tp (asB d) Ψ := by
  unfold tB'
  cases g ρ with
  | none => simp
  | some m =>
    cases m <;> simp [asDat]
    rename_i d
    cases d <;> simp [asB]
@[simp] theorem Tp_tbAnd {a b : Env → Option Bool} {Ψ : Bool → Prop} : Tp (tbAnd a b ρ) Ψ ↔ Tp (a ρ) fun x => (x = true → Tp (b ρ) Ψ) ∧ (x = false → Ψ false) := by
  unfold tbAnd
  cases a ρ with
  | none => simp
  | some x => cases x <;> simp
@[simp] theorem Tp_tbOr {a b : Env → Option Bool} {Ψ : Bool → Prop} : Tp (tbOr a b ρ) Ψ ↔ Tp (a ρ) fun x => (x = true → Ψ true) ∧ (x = false → Tp (b ρ) Ψ) := by
  unfold tbOr
  cases a ρ with
  | none => simp
  | some x => cases x <;> simp
@[simp] theorem Tp_tbNot {a : Env → Option Bool} {Ψ : Bool → Prop} : Tp (tbNot a ρ) Ψ ↔ Tp (a ρ) fun x => Ψ (!x) := by
  unfold tbNot
  cases a ρ <;> simp
@[simp] theorem Tp_tbYes {Ψ : Bool → Prop} : Tp (tbYes ρ) Ψ ↔ Ψ true := Iff.rfl
@[simp] theorem Tp_nChain {f f' : M → M → Option M} {ga gb gc : Env → Option M} : Tp (nChain f f' ga gb gc ρ) Ψ ↔ Tp (ga ρ) fun a => Tp (gb ρ) fun b => Tp (f a b) fun m => Tp (asDat m) fun d => Tp (asB d) fun x => (x = true → Tp (gc ρ) fun c => Tp (f' b c) Ψ) ∧ (x = false → Ψ (.dat (.bl false))) := by
  unfold nChain
  cases ga ρ with
  | none => simp
  | some a =>
    cases gb ρ with
    | none => simp
    | some b =>
      simp only [Tp_some]
      cases f a b with
      | none => simp
      | some m =>
        cases m <;> simp [asDat]
        rename_i d
        cases d <;> simp [asB]
        rename_i x
        cases x <;> simp
        cases gc ρ <;> simp
@[simp] theorem Tp_nIsi {n : String} {g : Env → Option M} : Tp (nIsi n g ρ) Ψ ↔ Tp (g ρ) fun m => isiOk n = true ∧ Tp (isiM n m) fun b => Ψ (.dat (.bl b)) := by
  unfold nIsi
  cases g ρ with
  | none => simp
  | some m =>
    by_cases h : isiOk n = true
    · simp [h]
      cases isiM n m <;> simp
    · simp [h]
end
section
variable {ρ : Env} {Φ : D → Env → Prop} {Φm : M → Env → Prop} {Φb : Bool → Env → Prop}
@[simp] theorem T_xE {g : Env → Option M} : T (xE g) ρ Φ ↔ Tp (g ρ) fun m => Tp (asDat m) fun d => Φ d ρ := by simp [xE]
@[simp] theorem T_gView {g : Env → Option M} : T (gView g) ρ Φ ↔ Tp (g ρ) fun m => Tp m.view fun d => Φ d ρ := by simp [gView]
@[simp] theorem T_xM {g : G M} : T (xM g) ρ Φ ↔ T g ρ fun m ρ' => Tp m.view fun d => Φ d ρ' := by simp [xM]
@[simp] theorem T_mE {g : G D} : T (mE g) ρ Φm ↔ T g ρ fun d ρ' => Φm (.dat d) ρ' := by simp [mE]
@[simp] theorem T_x2 {f : M → M → Option M} {a b : G D} : T (x2 f a b) ρ Φm ↔ T a ρ fun x ρ1 => T b ρ1 fun y ρ2 => Tp (f (.dat x) (.dat y)) fun m => Φm m ρ2 := by simp [x2]
@[simp] theorem T_x1 {f : M → Option M} {a : G D} : T (x1 f a) ρ Φm ↔ T a ρ fun x ρ1 => Tp (f (.dat x)) fun m => Φm m ρ1 := by simp [x1]
@[simp] theorem T_xL {f : List M → Option M} {gs : G (List D)} : T (xL f gs) ρ Φm ↔ T gs ρ fun xs ρ1 => Tp (f (xs.map M.dat)) fun m => Φm m ρ1 := by simp [xL]
@[simp] theorem T_xNil {Φ : List D → Env → Prop} : T xNil ρ Φ ↔ Φ [] ρ := Iff.rfl
@[simp] theorem T_xCons {g : G D} {r : G (List D)} {Φ : List D → Env → Prop} : T (xCons g r) ρ Φ ↔ T g ρ fun d ρ1 => T r ρ1 fun ds ρ2 => Φ (d :: ds) ρ2 := by simp [xCons]
@[simp] theorem T_xTup {gs : G (List D)} : T (xTup gs) ρ Φ ↔ T gs ρ fun ds ρ1 => ds.length ≤ 1000 ∧ Φ (.tup ds) ρ1 := by simp [xTup]
@[simp] theorem T_xLst {gs : G (List D)} : T (xLst gs) ρ Φm ↔ T gs ρ fun ds ρ1 => ds.length ≤ 1000 ∧ Φm (.lst (ds.map M.dat)) ρ1 := by simp [xLst]
@[simp] theorem T_tX {g : G D} : T (tX g) ρ Φb ↔ T g ρ fun d ρ1 => Tp (asB d) fun b => Φb b ρ1 := by simp [tX]
@[simp] theorem T_tAndX {a b : G Bool} : T (tAndX a b) ρ Φb ↔ T a ρ fun x ρ1 => (x = true → T b ρ1 Φb) ∧ (x = false → Φb false ρ1) := by
  unfold tAndX
  rw [T_bind]
  constructor <;> intro h <;> refine T.mono h fun x ρ1 q => ?_ <;> cases x <;> simp_all
@[simp] theorem T_tOrX {a b : G Bool} : T (tOrX a b) ρ Φb ↔ T a ρ fun x ρ1 => (x = true → Φb true ρ1) ∧ (x = false → T b ρ1 Φb) := by
  unfold tOrX
  rw [T_bind]
  constructor <;> intro h <;> refine T.mono h fun x ρ1 q => ?_ <;> cases x <;> simp_all
@[simp] theorem T_tNotX {a : G Bool} : T (tNotX a) ρ Φb ↔ T a ρ fun x ρ1 => Φb (!x) ρ1 := by simp [tNotX]
@[simp] theorem T_tYesX : T tYesX ρ Φb ↔ Φb true ρ := Iff.rfl
@[simp] theorem T_xoNo {Φ : Option Int → Env → Prop} : T xoNo ρ Φ ↔ Φ none ρ := Iff.rfl
@[simp] theorem T_xoAt {g : G D} {Φ : Option Int → Env → Prop} : T (xoAt g) ρ Φ ↔ T g ρ fun d ρ1 => Tp (asI d) fun i => Φ (some i) ρ1 := by simp [xoAt]
@[simp] theorem T_xSlX {f : M → Option Int → Option Int → Option M} {g : G D} {lo hi : G (Option Int)} : T (xSlX f g lo hi) ρ Φm ↔ T g ρ fun d ρ1 => T lo ρ1 fun l ρ2 => T hi ρ2 fun h ρ3 => Tp (f (.dat d) l h) fun m => Φm m ρ3 := by simp [xSlX]
@[simp] theorem T_xRng1 {gs : G (List D)} {Φ : List D → Env → Prop} : T (xRng1 gs) ρ Φ ↔ T gs ρ fun ds ρ1 => Tp (rng1 ds) fun r => Φ r ρ1 := by simp [xRng1]
@[simp] theorem T_xRng2 {gs : G (List D)} {Φ : List D → Env → Prop} : T (xRng2 gs) ρ Φ ↔ T gs ρ fun ds ρ1 => Tp (rng2 ds) fun r => Φ r ρ1 := by simp [xRng2]
@[simp] theorem T_xItems {g : G D} {Φ : List D → Env → Prop} : T (xItems g) ρ Φ ↔ T g ρ fun d ρ1 => Tp (itemsD d) fun r => Φ r ρ1 := by simp [xItems]
@[simp] theorem Tp_pRng1 {gs : Env → Option (List D)} {Ψ : List D → Prop} : Tp (pRng1 gs ρ) Ψ ↔ Tp (gs ρ) fun ds => Tp (rng1 ds) Ψ := by simp [pRng1]
@[simp] theorem Tp_pRng2 {gs : Env → Option (List D)} {Ψ : List D → Prop} : Tp (pRng2 gs ρ) Ψ ↔ Tp (gs ρ) fun ds => Tp (rng2 ds) Ψ := by simp [pRng2]
@[simp] theorem Tp_pItems {g : Env → Option M} {Ψ : List D → Prop} : Tp (pItems g ρ) Ψ ↔ Tp (g ρ) fun m => Tp (itemsM m) Ψ := by
  unfold pItems
  cases g ρ <;> simp
@[simp] theorem T_gTake {i : Nat} : T (gTake i) ρ Φm ↔ Tp (getS ρ i) fun m => Φm m (ρ.set i none) := by
  rw [getS_eq]
  unfold T gTake
  cases ρ[i]? with
  | none => simp
  | some x => cases x <;> simp
@[simp] theorem T_gFrz {i : Nat} : T (gFrz i) ρ Φ ↔ Tp (getS ρ i) fun m => Tp m.view fun d => Φ d (ρ.set i (some (.dat d))) := by
  rw [getS_eq]
  unfold T gFrz
  cases ρ[i]? with
  | none => simp
  | some x =>
    cases x with
    | none => simp
    | some m => simp; cases m.view <;> simp
@[simp] theorem T_gTo {i : Nat} {d : D} {Φ : Unit → Env → Prop} : T (gTo i d) ρ Φ ↔ Φ () (ρ.set i (some (.dat d))) := Iff.rfl
@[simp] theorem T_gToNil {Φ : Unit → Env → Prop} : T (gToNil []) ρ Φ ↔ Φ () ρ := Iff.rfl
@[simp] theorem T_gToCons {s : D → G Unit} {r : List D → G Unit} {d : D} {ds : List D} {Φ : Unit → Env → Prop} : T (gToCons s r (d :: ds)) ρ Φ ↔ T (s d) ρ fun _ ρ1 => T (r ds) ρ1 Φ := by simp [gToCons]
@[simp] theorem T_gToTup {n : Nat} {s : List D → G Unit} {ds : List D} {Φ : Unit → Env → Prop} : T (gToTup n s (.tup ds)) ρ Φ ↔ ds.length = n ∧ T (s ds) ρ Φ := by
  unfold gToTup
  by_cases h : ds.length = n
  · simp [h]
  · simp [h, T]
end
/-! ### calls -/
section
variable {ρ : Env} {Φ : M → Env → Prop}
theorem TF_ar {n : Nat} {f : List M → Option Rr} {ms : List M} {Φ : M → Option M → Prop} : TF (ar n f) ms Φ ↔ ms.length = n ∧ TF f ms Φ := by
  unfold TF ar
  by_cases h : ms.length = n
  · simp [h]
  · simp [h]
theorem TF_def {n : Nat} {j : Option Nat} {g : G Fl} {ms : List M} {Φ : M → Option M → Prop} : TF (defF n j g) ms Φ ↔ T g (start0 n ms) fun f ρ => match f with
    | .nx => Φ (.dat .non) (outM j ρ)
    | .rt m => Φ m (outM j ρ)
    | _ => False := by
  unfold TF defF T
  cases g (start0 n ms) with
  | none => simp
  | some r =>
    cases r with
    | ex C ρ => simp
    | ok f ρ => cases f <;> simp
theorem TF_B {np n : Nat} {j : Option Nat} {g : G Fl} {ms : List M} {Φ : M → Option M → Prop} (hn : ms.length = np) (h : T g (start0 n ms) fun f ρ => match f with
    | .nx => Φ (.dat .non) (outM j ρ)
    | .rt m => Φ m (outM j ρ)
    | _ => False) : TF (ar np (defF n j g)) ms Φ := TF_ar.mpr ⟨hn, TF_def.mpr h⟩
@[simp] theorem outM_none {ρ : Env} : outM none ρ = none := rfl
@[simp] theorem outM_some {i : Nat} {ρ : Env} : outM (some i) ρ = getS ρ i := by rw [getS_eq]; rfl
@[simp] theorem T_gCall {f : List M → Option Rr} {gs : G (List D)} : T (gCall true f gs) ρ Φ ↔ T gs ρ fun ds ρ1 => TF f (ds.map M.dat) fun r _ => Φ r ρ1 := by
  unfold gCall
  rw [T_bind]
  constructor <;> intro h <;> refine T.mono h fun ds ρ1 q => ?_ <;> unfold T at * <;> unfold TF at * <;> (cases e : f (ds.map M.dat) with
    | none => rw [e] at q; exact q
    | some r => rw [e] at q; cases r <;> simp_all)
@[simp] theorem T_gHere {i : Nat} {gs : G (List D)} {Φ : List D × Nat × List D → Env → Prop} : T (gHere i gs) ρ Φ ↔ Tp (getS ρ i) fun _ => T gs ρ fun es ρ1 => Φ ([], i, es) ρ1 := by
  rw [getS_eq]
  cases e : ρ[i]? with
  | none =>
    have h : gHere i gs ρ = none := by simp [gHere, e]
    simp [T, h]
  | some x =>
    cases x with
    | none =>
      have h : gHere i gs ρ = none := by simp [gHere, e]
      simp [T, h]
    | some m =>
      have h : gHere i gs ρ = gBind gs (fun es => gRet ([], i, es)) ρ := by simp [gHere, e]
      rw [T_congr h]
      simp
@[simp] theorem T_gNext {ge : G D} {gs : G (List D × Nat × List D)} {Φ : List D × Nat × List D → Env → Prop} : T (gNext ge gs) ρ Φ ↔ T ge ρ fun d ρ1 => T gs ρ1 fun p ρ2 => Φ (d :: p.1, p.2.1, p.2.2) ρ2 := by simp [gNext]
@[simp] theorem T_gCallS {j : Nat} {f : List M → Option Rr} {gs : G (List D × Nat × List D)} : T (gCallS true j f gs) ρ Φ ↔ T gs ρ fun p ρ1 => p.1.length = j ∧ Tp (getS ρ1 p.2.1) fun m => TF f (p.1.map M.dat ++ m :: p.2.2.map M.dat) fun r m' => Tp m' fun x => Φ r (ρ1.set p.2.1 (some x)) := by
  unfold gCallS
  rw [T_bind]
  have key : ∀ (p : List D × Nat × List D) (ρ1 : Env), T (fun ρ => if p.1.length = j then (match getP ρ (.slot p.2.1) with
    | some m => gBack true ρ (.slot p.2.1) (f (p.1.map M.dat ++ m :: p.2.2.map M.dat))
    | none => none) else none) ρ1 Φ ↔ (p.1.length = j ∧ Tp (getS ρ1 p.2.1) fun m => TF f (p.1.map M.dat ++ m :: p.2.2.map M.dat) fun r m' => Tp m' fun x => Φ r (ρ1.set p.2.1 (some x))) := fun p ρ1 => by
    unfold T
    dsimp only
    simp only [getP_slot]
    by_cases h : p.1.length = j
    · simp only [h, if_true, true_and]
      cases getS ρ1 p.2.1 with
      | none => simp
      | some m =>
        simp only [Tp_some]
        unfold TF
        cases f (p.1.map M.dat ++ m :: p.2.2.map M.dat) with
        | none => simp [gBack]
        | some r => cases r with
          | ok r m' => cases m' <;> simp [gBack, putP]
          | ex c m' => cases m' <;> simp [gBack]
    · simp [h]
  constructor <;> intro h <;> refine T.mono h fun p ρ1 q => ?_
  · exact (key p ρ1).mp q
  · exact (key p ρ1).mpr q
@[simp] theorem T_fHere {ge : G M} {gs : G (List D)} {Φ : List D × M × List D → Env → Prop} : T (fHere ge gs) ρ Φ ↔ T ge ρ fun m ρ1 => T gs ρ1 fun es ρ2 => Φ ([], m, es) ρ2 := by simp [fHere]
@[simp] theorem T_fNext {ge : G D} {gs : G (List D × M × List D)} {Φ : List D × M × List D → Env → Prop} : T (fNext ge gs) ρ Φ ↔ T ge ρ fun d ρ1 => T gs ρ1 fun p ρ2 => Φ (d :: p.1, p.2.1, p.2.2) ρ2 := by simp [fNext]
@[simp] theorem T_gCallT {j : Nat} {f : List M → Option Rr} {gs : G (List D × M × List D)} : T (gCallT true j f gs) ρ Φ ↔ T gs ρ fun p ρ1 => p.1.length = j ∧ TF f (p.1.map M.dat ++ p.2.1 :: p.2.2.map M.dat) fun r _ => Φ r ρ1 := by
  unfold gCallT
  rw [T_bind]
  have key : ∀ (p : List D × M × List D) (ρ1 : Env), T (fun ρ => if p.1.length = j then (match f (p.1.map M.dat ++ p.2.1 :: p.2.2.map M.dat) with
    | some (.ok r _) => some (.ok r ρ)
    | some (.ex c _) => if true then none else some (.ex c ρ)
    | none => none) else none) ρ1 Φ ↔ (p.1.length = j ∧ TF f (p.1.map M.dat ++ p.2.1 :: p.2.2.map M.dat) fun r _ => Φ r ρ1) := fun p ρ1 => by
    unfold T TF
    dsimp only
    by_cases h : p.1.length = j
    · simp only [h, if_true, true_and]
      cases f (p.1.map M.dat ++ p.2.1 :: p.2.2.map M.dat) with
      | none => simp
      | some r => cases r <;> simp
    · simp [h]
  constructor <;> intro h <;> refine T.mono h fun p ρ1 q => ?_
  · exact (key p ρ1).mp q
  · exact (key p ρ1).mpr q
@[simp] theorem T_gMake {c : Nat} {f : List M → Option Rr} {gs : G (List D)} : T (gMake true c f gs) ρ Φ ↔ T gs ρ fun ds ρ1 => TF f (.obj c [] :: ds.map M.dat) fun r m' => r = .dat .non ∧ Tp m' fun m => Φ m ρ1 := by
  unfold gMake
  rw [T_bind]
  constructor <;> intro h <;> refine T.mono h fun ds ρ1 q => ?_ <;> unfold T at * <;> unfold TF at * <;> (cases e : f (.obj c [] :: ds.map M.dat) with
    | none => rw [e] at q; simp at q
    | some r =>
      rw [e] at q
      cases r with
      | ex x m' => simp at q
      | ok r m' =>
        cases m' with
        | none => cases r <;> simp_all <;> (rename_i d; cases d <;> simp_all)
        | some m => cases r <;> simp_all <;> (rename_i d; cases d <;> simp_all))
/-- what stands at a path -/
def upP (ρ : Env) (p : Pth) (r : Option Rr) (Φ : M → Env → Prop) : Prop := match r with
  | some (.ok r (some m')) => Φ r (putP ρ p m')
  | _ => False
@[simp] theorem vS_eq {i : Nat} : vS i ρ = some (.slot i) := rfl
@[simp] theorem getP_slot' {i : Nat} : getP ρ (.slot i) = getS ρ i := getP_slot
@[simp] theorem putP_slot {i : Nat} {m : M} : putP ρ (.slot i) m = ρ.set i (some m) := rfl
@[simp] theorem Tp_gP {pf : Env → Option Pth} {Ψ : M → Prop} : Tp (gP pf ρ) Ψ ↔ Tp (pf ρ) fun p => Tp (getP ρ p) Ψ := by simp [gP]
@[simp] theorem Tp_gFld {C : Nat} {f : Str} {pf : Env → Option Pth} {Ψ : Pth → Prop} : Tp (gFld C f pf ρ) Ψ ↔ Tp (pf ρ) fun p => Tp (getP ρ p) fun m => (∃ fs, m = .obj C fs) ∧ Ψ (.fld p f) := by
  unfold gFld
  cases pf ρ with
  | none => simp
  | some p =>
    simp only [Tp_some]
    cases getP ρ p with
    | none => simp
    | some m =>
      cases m with
      | obj C' fs =>
        by_cases h : C' = C
        · simp [h]
        · simp [h]
      | _ => simp
@[simp] theorem getP_fld {p : Pth} {f : Str} : getP ρ (.fld p f) = (getP ρ p).bind fun m => stepM m f := rfl
@[simp] theorem stepM_obj {c : Nat} {fs : List (Str × M)} {f : Str} : stepM (.obj c fs) f = lookM f fs := rfl
@[simp] theorem lookM_nil {f : Str} : lookM f [] = none := rfl
@[simp] theorem lookM_cons' {f g : Str} {m : M} {fs : List (Str × M)} : lookM f ((g, m) :: fs) = if f = g then some m else lookM f fs := rfl
@[simp] theorem putM_nil {f : Str} {m : M} : putM f m [] = [(f, m)] := rfl
@[simp] theorem putM_cons {f g : Str} {m x : M} {fs : List (Str × M)} : putM f m ((g, x) :: fs) = if g = f then (g, m) :: fs else (g, x) :: putM f m fs := rfl
@[simp] theorem putP_fld {p : Pth} {f : Str} {m' : M} : putP ρ (.fld p f) m' = (match getP ρ p with
  | some m => putP ρ p (putFld m' f m)
  | none => ρ) := rfl
@[simp] theorem putFld_obj {c : Nat} {fs : List (Str × M)} {f : Str} {m' : M} : putFld m' f (.obj c fs) = .obj c (putM f m' fs) := rfl
@[simp] theorem T_gMeth {C : Nat} {x : Str} {f : List M → Option Rr} {pf : Env → Option Pth} {gs : Env → Option (List D)} : T (gMeth true C x f pf gs) ρ Φ ↔ Tp (pf ρ) fun p => Tp (getP ρ p) fun m => (∃ fs, m = .obj C fs ∧ lookM x fs = none) ∧ Tp (gs ρ) fun es => TF f (m :: es.map M.dat) fun r m' => Tp m' fun y => Φ r (putP ρ p y) := by
  unfold gMeth T
  dsimp only
  cases pf ρ with
  | none => simp
  | some p =>
    simp only [Tp_some]
    cases getP ρ p with
    | none => simp
    | some m =>
      cases m with
      | obj C' fs =>
        by_cases h : C' = C
        · subst h
          simp only [if_true, Tp_some]
          cases e5 : lookM x fs with
          | some y => simp [e5]
          | none =>
            cases gs ρ with
            | none => simp
            | some es =>
              simp [TF]
              cases f (.obj C' fs :: es.map M.dat) with
              | none => simp [gBack]
              | some r => cases r with
                | ok r m' => cases m' <;> simp [gBack, e5]
                | ex c m' => cases m' <;> simp [gBack, e5]
        · simp [h]
      | _ => simp
end
section
variable {ρ : Env} {Φ : Fl → Env → Prop}
def asLst : M → Option (List M)
  | .lst ms => some ms
  | _ => none
@[simp] theorem asLst_lst {ms : List M} : asLst (.lst ms) = some ms := rfl
@[simp] theorem T_gApp {pf : Env → Option Pth} {ge : Env → Option M} : T (gApp pf ge) ρ Φ ↔ Tp (pf ρ) fun p => Tp (getP ρ p) fun l => Tp (asLst l) fun ms => Tp (ge ρ) fun e => Tp (asDat e) fun d => ms.length < 100000 ∧ Φ .nx (putP ρ p (.lst (ms ++ [.dat d]))) := by
  unfold gApp T
  dsimp only
  cases pf ρ with
  | none => simp
  | some p =>
    simp only [Tp_some]
    cases getP ρ p with
    | none => simp
    | some l =>
      cases l with
      | lst ms =>
        cases ge ρ with
        | none => simp [asLst]
        | some e =>
          cases e with
          | dat d =>
            by_cases h : ms.length < 100000
            · simp [h, asLst]
            · simp [h, asLst]
          | _ => simp [asLst, asDat]
      | _ => simp [asLst]
@[simp] theorem T_gAppS {i : Nat} {ge : G D} : T (gAppS i ge) ρ Φ ↔ (Tp (getS ρ i) fun l => Tp (asLst l) fun _ => T ge ρ fun d ρ1 => Tp (getS ρ1 i) fun l1 => Tp (asLst l1) fun ms => ms.length < 100000 ∧ Φ .nx (ρ1.set i (some (.lst (ms ++ [.dat d]))))) := by
  have key : ∀ (d : D) (ρ1 : Env), T (fun ρ1 => match getP ρ1 (.slot i) with
    | some (.lst ms) => if ms.length < 100000 then some (.ok .nx (ρ1.set i (some (.lst (ms ++ [.dat d]))))) else none
    | _ => none) ρ1 Φ ↔ Tp (getS ρ1 i) fun l1 => Tp (asLst l1) fun ms => ms.length < 100000 ∧ Φ .nx (ρ1.set i (some (.lst (ms ++ [.dat d])))) := fun d ρ1 => by
    unfold T
    dsimp only
    simp only [getP_slot]
    cases getS ρ1 i with
    | none => simp
    | some l =>
      cases l with
      | lst ms =>
        by_cases h : ms.length < 100000
        · simp [h, asLst]
        · simp [h, asLst]
      | _ => simp [asLst]
  cases e : getS ρ i with
  | none =>
    have h : gAppS i ge ρ = none := by simp [gAppS, getP_slot, e]
    simp [T, h]
  | some l =>
    cases l with
    | lst ms0 =>
      have h : gAppS i ge ρ = gBind ge (fun d ρ1 => match getP ρ1 (.slot i) with
        | some (.lst ms) => if ms.length < 100000 then some (.ok .nx (ρ1.set i (some (.lst (ms ++ [.dat d]))))) else none
        | _ => none) ρ := by
        simp only [gAppS, getP_slot, e]
        try rfl
      rw [T_congr h, T_bind]
      simp only [Tp_some, asLst_lst]
      constructor <;> intro q <;> refine T.mono q fun d ρ1 z => ?_
      · exact (key d ρ1).mp z
      · exact (key d ρ1).mpr z
    | _ =>
      have h : gAppS i ge ρ = none := by simp [gAppS, getP_slot, e]
      simp [T, h, asLst]
@[simp] theorem T_gPop {pf : Env → Option Pth} {Φ : M → Env → Prop} : T (gPop pf) ρ Φ ↔ Tp (pf ρ) fun p => Tp (getP ρ p) fun l => Tp (asLst l) fun ms => Tp ms.getLast? fun m => Φ m (putP ρ p (.lst ms.dropLast)) := by
  unfold gPop T
  dsimp only
  cases pf ρ with
  | none => simp
  | some p =>
    simp only [Tp_some]
    cases getP ρ p with
    | none => simp
    | some l =>
      cases l with
      | lst ms => simp [asLst]; cases ms.getLast? <;> simp
      | _ => simp [asLst]
@[simp] theorem T_gClear {pf : Env → Option Pth} : T (gClear pf) ρ Φ ↔ Tp (pf ρ) fun p => Tp (getP ρ p) fun l => Tp (asLst l) fun ms => Φ .nx (putP ρ p (.lst [])) := by
  unfold gClear T
  dsimp only
  cases pf ρ with
  | none => simp
  | some p =>
    simp only [Tp_some]
    cases getP ρ p with
    | none => simp
    | some l => cases l <;> simp [asLst]
@[simp] theorem T_gSetI {ge : G D} {pf : Env → Option Pth} {gi : Env → Option M} : T (gSetI ge pf gi) ρ Φ ↔ T ge ρ fun d ρ1 => Tp (pf ρ1) fun p => Tp (getP ρ1 p) fun l => Tp (asLst l) fun ms => Tp (gi ρ1) fun x => Tp (asDat x) fun y => Tp (asI y) fun i => Tp (ixN ms.length i) fun j => Φ .nx (putP ρ1 p (.lst (ms.set j (.dat d)))) := by
  unfold gSetI
  rw [T_bind]
  constructor <;> intro h <;> refine T.mono h fun d ρ1 q => ?_ <;> unfold T at * <;> (try dsimp only at *) <;> (cases e1 : pf ρ1 with
    | none => simp_all
    | some p =>
      simp only [e1, Tp_some] at q ⊢
      cases e2 : getP ρ1 p with
      | none => simp_all
      | some l =>
        cases l with
        | lst ms =>
          cases e3 : gi ρ1 with
          | none => simp_all [asLst]
          | some x =>
            cases x with
            | dat y =>
              cases y with
              | int i => simp only [e2, e3, asLst, Tp_some, asDat, asI] at q ⊢; cases e4 : ixN ms.length i <;> simp_all
              | _ => simp_all [asLst, asI]
            | _ => simp_all [asLst, asDat]
        | _ => simp_all [asLst])
@[simp] theorem T_gAug {i : Nat} {f : M → M → Option M} {ge : G D} : T (gAug i f ge) ρ Φ ↔ Tp (getS ρ i) fun m0 => Tp (asDat m0) fun d0 => T ge ρ fun d ρ1 => Tp (f (.dat d0) (.dat d)) fun m => Tp (asDat m) fun d' => Φ .nx (ρ1.set i (some (.dat d'))) := by
  have key : ∀ (d0 d : D) (ρ1 : Env), T (fun ρ1 => match f (.dat d0) (.dat d) with
    | some (.dat d') => some (.ok .nx (ρ1.set i (some (.dat d'))))
    | _ => none) ρ1 Φ ↔ Tp (f (.dat d0) (.dat d)) fun m => Tp (asDat m) fun d' => Φ .nx (ρ1.set i (some (.dat d'))) := fun d0 d ρ1 => by
    unfold T
    dsimp only
    cases f (.dat d0) (.dat d) with
    | none => simp
    | some m => cases m <;> simp [asDat]
  rw [getS_eq]
  cases e : ρ[i]? with
  | none =>
    have h : gAug i f ge ρ = none := by simp [gAug, e]
    simp [T, h]
  | some x =>
    cases x with
    | none =>
      have h : gAug i f ge ρ = none := by simp [gAug, e]
      simp [T, h]
    | some m =>
      cases m with
      | dat d0 =>
        have h : gAug i f ge ρ = gBind ge (fun d ρ1 => match f (.dat d0) (.dat d) with
          | some (.dat d') => some (.ok .nx (ρ1.set i (some (.dat d'))))
          | _ => none) ρ := by
          simp only [gAug, e]
          try rfl
        rw [T_congr h, T_bind]
        simp only [Tp_some, asDat_dat]
        constructor <;> intro q <;> refine T.mono q fun d ρ1 z => ?_
        · exact (key d0 d ρ1).mp z
        · exact (key d0 d ρ1).mpr z
      | _ =>
        have h : gAug i f ge ρ = none := by simp [gAug, e]
        simp [T, h, asDat]
@[simp] theorem T_gFSet {c : Nat} {f : Str} {ge : G M} {pf : Env → Option Pth} : T (gFSet c f ge pf) ρ Φ ↔ T ge ρ fun m ρ1 => Tp (pf ρ1) fun p => Tp (getP ρ1 p) fun o => ∃ fs, o = .obj c fs ∧ fs.length < 1000 ∧ Φ .nx (putP ρ1 p (.obj c (putM f m fs))) := by
  have key : ∀ (m : M) (ρ1 : Env), T (fun ρ => match pf ρ with
    | some p => (match getP ρ p with
      | some (.obj c' fs) => if c' = c ∧ fs.length < 1000 then some (.ok .nx (putP ρ p (.obj c' (putM f m fs)))) else none
      | _ => none)
    | none => none) ρ1 Φ ↔ Tp (pf ρ1) fun p => Tp (getP ρ1 p) fun o => ∃ fs, o = .obj c fs ∧ fs.length < 1000 ∧ Φ .nx (putP ρ1 p (.obj c (putM f m fs))) := fun m ρ1 => by
    unfold T
    dsimp only
    cases pf ρ1 with
    | none => simp
    | some p =>
      dsimp only
      simp only [Tp_some]
      cases getP ρ1 p with
      | none => simp
      | some l =>
        cases l with
        | obj c' fs =>
          by_cases h1 : c' = c
          · subst h1
            by_cases h2 : fs.length < 1000
            · simp [h2]
            · simp [h2]
          · simp [h1]
        | _ => simp
  unfold gFSet
  rw [T_bind]
  constructor <;> intro q <;> refine T.mono q fun m ρ1 z => ?_
  · exact (key m ρ1).mp z
  · exact (key m ρ1).mpr z
end
end Y
/-! Y: what the operations answer, loops, comprehensions. -/
namespace Y
open PySem L2
/-! ### places -/
section
variable {α : Type} {xs : List α}
theorem atI_pos {i : Int} (h : 0 ≤ i) : atI xs i = xs[i.toNat]? := by
  unfold atI ixN
  rw [if_pos h]
  by_cases h1 : i < xs.length
  · rw [if_pos h1]; rfl
  · rw [if_neg h1, List.getElem?_eq_none (by omega)]; rfl
@[simp] theorem atI_cast {n : Nat} : atI xs (n : Int) = xs[n]? := by rw [atI_pos (by omega)]; simp
@[simp] theorem atI_zero : atI xs 0 = xs[0]? := atI_pos (by decide)
@[simp] theorem atI_one : atI xs 1 = xs[1]? := atI_pos (by decide)
@[simp] theorem atI_2 : atI xs 2 = xs[2]? := atI_pos (by decide)
@[simp] theorem atI_3 : atI xs 3 = xs[3]? := atI_pos (by decide)
@[simp] theorem atI_4 : atI xs 4 = xs[4]? := atI_pos (by decide)
@[simp] theorem atI_5 : atI xs 5 = xs[5]? := atI_pos (by decide)
@[simp] theorem atI_6 : atI xs 6 = xs[6]? := atI_pos (by decide)
@[simp] theorem atI_7 : atI xs 7 = xs[7]? := atI_pos (by decide)
@[simp] theorem atI_last : atI xs (-1) = xs.getLast? := by
  unfold atI ixN
  rw [if_neg (by decide)]
  by_cases h : xs = []
  · subst h; rfl
  · have : 0 < xs.length := List.length_pos_iff.mpr h
    rw [if_pos (by omega), List.getLast?_eq_getElem?]
    show xs[(-1 + (xs.length : Int)).toNat]? = _
    congr 1
    omega
theorem sIx_pos {n d : Nat} {i : Int} (h : 0 ≤ i) : HT.sIx n d (some i) = min i.toNat n := by
  show (if i < 0 then _ else _) = _
  rw [if_neg (by omega)]
@[simp] theorem cutD_none : cutD xs none none = xs := by simp [cutD, HT.sIx]
theorem cutD_lo {i : Int} (h : 0 ≤ i) : cutD xs (some i) none = xs.drop i.toNat := by
  unfold cutD
  rw [sIx_pos h]
  simp only [HT.sIx]
  rcases Nat.le_total i.toNat xs.length with h1 | h1
  · rw [Nat.min_eq_left h1, List.take_of_length_le (by simp)]
  · rw [Nat.min_eq_right h1, List.drop_eq_nil_of_le (Nat.le_refl _), List.drop_eq_nil_of_le h1]; simp
theorem cutD_hi {i : Int} (h : 0 ≤ i) : cutD xs none (some i) = xs.take i.toNat := by
  unfold cutD
  rw [sIx_pos h]
  simp only [HT.sIx, List.drop_zero, Nat.sub_zero]
  rcases Nat.le_total i.toNat xs.length with h1 | h1
  · rw [Nat.min_eq_left h1]
  · rw [Nat.min_eq_right h1, List.take_of_length_le (Nat.le_refl _), List.take_of_length_le h1]
theorem cutD_lohi {i j : Int} (h : 0 ≤ i) (h2 : 0 ≤ j) : cutD xs (some i) (some j) = (xs.drop i.toNat).take (j.toNat - i.toNat) := by
  unfold cutD
  rw [sIx_pos h, sIx_pos h2]
  rcases Nat.le_total i.toNat xs.length with h1 | h1
  · rw [Nat.min_eq_left h1]
    rcases Nat.le_total j.toNat xs.length with h3 | h3
    · rw [Nat.min_eq_left h3]
    · rw [Nat.min_eq_right h3, List.take_of_length_le (by simp), List.take_of_length_le (by simp; omega)]
  · rw [Nat.min_eq_right h1, List.drop_eq_nil_of_le (Nat.le_refl _), List.drop_eq_nil_of_le h1]; simp
theorem cutD_neg1 : cutD xs (some (-1)) none = xs.drop (xs.length - 1) := by
  unfold cutD
  simp only [HT.sIx]
  rw [if_pos (by decide), List.take_of_length_le (by simp)]
  congr 1
  omega
end
section
variable {Ψ : M → Prop}
@[simp] theorem view_dat {d : D} : (M.dat d).view = some d := by simp [M.view]
@[simp] theorem view_lst {ms : List M} {Ψ : D → Prop} : Tp (M.lst ms).view Ψ ↔ Tp (views ms) fun ds => Ψ (.lst ds) := by simp [M.view]
@[simp] theorem Tp_views_nil {Ψ : List D → Prop} : Tp (views []) Ψ ↔ Ψ [] := by simp [views]
@[simp] theorem Tp_views_cons {m : M} {ms : List M} {Ψ : List D → Prop} : Tp (views (m :: ms)) Ψ ↔ Tp m.view fun d => Tp (views ms) fun ds => Ψ (d :: ds) := by
  simp only [views]
  cases m.view <;> cases views ms <;> simp
@[simp] theorem Tp_views_dat {ds : List D} {Ψ : List D → Prop} : Tp (views (ds.map M.dat)) Ψ ↔ Ψ ds := by rw [views_dat]; simp
@[simp] theorem Tp_views_app {ms ns : List M} {Ψ : List D → Prop} : Tp (views (ms ++ ns)) Ψ ↔ Tp (views ms) fun a => Tp (views ns) fun b => Ψ (a ++ b) := by
  induction ms generalizing Ψ with
  | nil => simp
  | cons m ms ih =>
    rw [List.cons_append, Tp_views_cons, Tp_views_cons]
    constructor <;> intro h <;> refine Tp.mono h fun d q => ?_
    · exact Tp.mono (ih.mp q) fun a z => Tp.mono z fun b y => y
    · exact ih.mpr (Tp.mono q fun a z => Tp.mono z fun b y => y)
@[simp] theorem Tp_dats_nil {Ψ : List D → Prop} : Tp (dats []) Ψ ↔ Ψ [] := Iff.rfl
@[simp] theorem Tp_dats_cons {d : D} {ms : List M} {Ψ : List D → Prop} : Tp (dats (.dat d :: ms)) Ψ ↔ Tp (dats ms) fun ds => Ψ (d :: ds) := by
  show Tp (match dats ms with
    | some ds => some (d :: ds)
    | none => none) Ψ ↔ _
  cases dats ms <;> simp
@[simp] theorem Tp_dats_map {ds : List D} {Ψ : List D → Prop} : Tp (dats (ds.map M.dat)) Ψ ↔ Ψ ds := by rw [dats_map]; simp
@[simp] theorem Tp_dats_app {ms ns : List M} {Ψ : List D → Prop} : Tp (dats (ms ++ ns)) Ψ ↔ Tp (dats ms) fun a => Tp (dats ns) fun b => Ψ (a ++ b) := by
  induction ms generalizing Ψ with
  | nil => simp
  | cons m ms ih =>
    cases m with
    | dat d =>
      rw [List.cons_append, Tp_dats_cons, Tp_dats_cons]
      exact ih
    | _ => simp [dats]
@[simp] theorem Tp_litems_lst {ms : List M} {Ψ : List D → Prop} : Tp (litems (.lst ms)) Ψ ↔ Tp (dats ms) Ψ := Iff.rfl
@[simp] theorem Tp_litems_dat {ds : List D} {Ψ : List D → Prop} : Tp (litems (.dat (.lst ds))) Ψ ↔ Ψ ds := Iff.rfl
@[simp] theorem itemsM_dat {d : D} : itemsM (.dat d) = itemsD d := rfl
@[simp] theorem itemsM_lst {ms : List M} : itemsM (.lst ms) = dats ms := rfl
@[simp] theorem itemsD_lst {ds : List D} : itemsD (.lst ds) = some ds := rfl
@[simp] theorem itemsD_tup {ds : List D} : itemsD (.tup ds) = some ds := rfl
@[simp] theorem itemsD_str {s : List Nat} : itemsD (.str s) = some (s.map fun c => .str [c]) := rfl
@[simp] theorem fAdd_int {i j : Int} : fAdd (.dat (.int i)) (.dat (.int j)) = some (.dat (.int (i + j))) := rfl
@[simp] theorem fAdd_str {s t : List Nat} : fAdd (.dat (.str s)) (.dat (.str t)) = if s.length + t.length ≤ 16000000 then some (.dat (.str (s ++ t))) else none := rfl
@[simp] theorem fAdd_tup {s t : List D} : fAdd (.dat (.tup s)) (.dat (.tup t)) = if s.length + t.length ≤ 100000 then some (.dat (.tup (s ++ t))) else none := rfl
@[simp] theorem fAdd_ll {a : List D} {b : List D} : Tp (fAdd (.dat (.lst a)) (.dat (.lst b))) Ψ ↔ a.length + b.length ≤ 100000 ∧ Ψ (.lst (a.map M.dat ++ b.map M.dat)) := by
  unfold fAdd
  simp only [litems]
  rw [Tp_ite, List.map_append]
@[simp] theorem fAdd_lm {a : List D} {b : List M} : Tp (fAdd (.dat (.lst a)) (.lst b)) Ψ ↔ Tp (dats b) fun b => a.length + b.length ≤ 100000 ∧ Ψ (.lst (a.map M.dat ++ b.map M.dat)) := by
  unfold fAdd
  simp only [litems]
  cases dats b <;> simp
@[simp] theorem fAdd_ml {a : List M} {b : List D} : Tp (fAdd (.lst a) (.dat (.lst b))) Ψ ↔ Tp (dats a) fun a => a.length + b.length ≤ 100000 ∧ Ψ (.lst (a.map M.dat ++ b.map M.dat)) := by
  unfold fAdd
  simp only [litems]
  cases dats a <;> simp
@[simp] theorem fAdd_mm {a : List M} {b : List M} : Tp (fAdd (.lst a) (.lst b)) Ψ ↔ Tp (dats a) fun a => Tp (dats b) fun b => a.length + b.length ≤ 100000 ∧ Ψ (.lst (a.map M.dat ++ b.map M.dat)) := by
  unfold fAdd
  simp only [litems]
  cases dats a <;> cases dats b <;> simp
@[simp] theorem fSub_int {i j : Int} : fSub (.dat (.int i)) (.dat (.int j)) = some (.dat (.int (i - j))) := rfl
@[simp] theorem fDiv_int {i j : Int} : Tp (fDiv (.dat (.int i)) (.dat (.int j))) Ψ ↔ (0 < j ∧ j < 1073741824) ∧ Ψ (.dat (.int (i / j))) := by
  show Tp (if decide (0 < j ∧ j < 1073741824) = true then _ else none) Ψ ↔ _
  rw [Tp_ite]
  simp
@[simp] theorem fMod_int {i j : Int} : Tp (fMod (.dat (.int i)) (.dat (.int j))) Ψ ↔ 0 < j ∧ Ψ (.dat (.int (i % j))) := by
  show Tp (if decide (0 < j) = true then _ else none) Ψ ↔ _
  rw [Tp_ite]
  simp
@[simp] theorem fPow_int {i j : Int} : Tp (fPow (.dat (.int i)) (.dat (.int j))) Ψ ↔ (0 ≤ j ∧ j ≤ 1000000 ∧ i.natAbs < 2 ^ 64) ∧ Ψ (.dat (.int (i ^ j.toNat))) := by
  show Tp (if decide (0 ≤ j ∧ j ≤ 1000000 ∧ i.natAbs < 2 ^ 64) = true then _ else none) Ψ ↔ _
  rw [Tp_ite, decide_eq_true_iff]
@[simp] theorem fMul_int {i j : Int} : Tp (fMul (.dat (.int i)) (.dat (.int j))) Ψ ↔ (i.natAbs < 2 ^ 64 ∨ j.natAbs < 2 ^ 64) ∧ Ψ (.dat (.int (i * j))) := by
  show Tp (if i.natAbs < 2 ^ 64 ∨ j.natAbs < 2 ^ 64 then _ else none) Ψ ↔ _
  rw [Tp_ite]
@[simp] theorem fNeg_int {i : Int} : fNeg (.dat (.int i)) = some (.dat (.int (-i))) := rfl
@[simp] theorem iadd_int {i j : Int} : iadd (.dat (.int i)) (.dat (.int j)) = some (.dat (.int (i + j))) := rfl
@[simp] theorem isub_int {i j : Int} : isub (.dat (.int i)) (.dat (.int j)) = some (.dat (.int (i - j))) := rfl
@[simp] theorem Tp_fEq {a b : M} : Tp (fEq a b) Ψ ↔ Tp a.view fun d => Tp b.view fun e => Tp (eqD d e) fun r => Ψ (.dat (.bl r)) := by
  unfold fEq
  cases a.view with
  | none => simp
  | some d =>
    cases b.view with
    | none => simp
    | some e =>
      simp only [Tp_some]
      cases eqD d e <;> simp
@[simp] theorem Tp_fNe {a b : M} : Tp (fNe a b) Ψ ↔ Tp a.view fun d => Tp b.view fun e => Tp (eqD d e) fun r => Ψ (.dat (.bl (!r))) := by
  unfold fNe
  cases a.view with
  | none => simp
  | some d =>
    cases b.view with
    | none => simp
    | some e =>
      simp only [Tp_some]
      cases eqD d e <;> simp
@[simp] theorem eqD_int {i j : Int} : eqD (.int i) (.int j) = some (i == j) := by simp [eqD, scalE, peq]
@[simp] theorem eqD_str {s t : List Nat} : eqD (.str s) (.str t) = some (s == t) := by simp [eqD, scalE, peq]
@[simp] theorem eqD_bl {s t : Bool} : eqD (.bl s) (.bl t) = some (s == t) := by simp [eqD, scalE, peq]
@[simp] theorem eqD_strnon {s : List Nat} : eqD (.str s) .non = some false := by simp [eqD, scalE, peq]
@[simp] theorem eqD_nonstr {s : List Nat} : eqD .non (.str s) = some false := by simp [eqD, scalE, peq]
@[simp] theorem eqD_nonnon : eqD .non .non = some true := by simp [eqD, scalE, peq]
theorem eqD_ok {d e : D} (h : okE 60 d = true) (h2 : okE 60 e = true) : eqD d e = some (peq d e) := by
  unfold eqD
  split
  · rfl
  · rw [if_pos (by simp [h, h2])]
@[simp] theorem eqD_lst {xs ys : List D} {Ψ : Bool → Prop} : Tp (eqD (.lst xs) (.lst ys)) Ψ ↔ (okE 60 (.lst xs) = true ∧ okE 60 (.lst ys) = true) ∧ Ψ (peqs xs ys) := by
  unfold eqD
  simp only [scalE, Bool.false_eq_true, if_false]
  rw [Tp_ite, Bool.and_eq_true]
  simp [peq]
@[simp] theorem eqD_tup {xs ys : List D} {Ψ : Bool → Prop} : Tp (eqD (.tup xs) (.tup ys)) Ψ ↔ (okE 60 (.tup xs) = true ∧ okE 60 (.tup ys) = true) ∧ Ψ (peqs xs ys) := by
  unfold eqD
  simp only [scalE, Bool.false_eq_true, if_false]
  rw [Tp_ite, Bool.and_eq_true]
  simp [peq]
@[simp] theorem peqs_nn : peqs [] [] = true := by simp [peqs]
@[simp] theorem peqs_cn {x : D} {xs : List D} : peqs (x :: xs) [] = false := by simp [peqs]
@[simp] theorem peqs_nc {x : D} {xs : List D} : peqs [] (x :: xs) = false := by simp [peqs]
@[simp] theorem peqs_cc {x y : D} {xs ys : List D} : peqs (x :: xs) (y :: ys) = (peq x y && peqs xs ys) := by simp [peqs]
theorem peqs_nil {xs : List D} : peqs xs [] = xs.isEmpty := by cases xs <;> simp
@[simp] theorem okE_int {n : Nat} {i : Int} : okE (n + 1) (.int i) = true := by simp [okE]
@[simp] theorem okE_bl {n : Nat} {i : Bool} : okE (n + 1) (.bl i) = true := by simp [okE]
@[simp] theorem okE_non {n : Nat} : okE (n + 1) .non = true := by simp [okE]
@[simp] theorem okE_str {n : Nat} {s : List Nat} : okE (n + 1) (.str s) = s.all (· < 1114112) := by simp [okE]
@[simp] theorem okE_lst {n : Nat} {s : List D} : okE (n + 1) (.lst s) = s.all (okE n) := by simp [okE]
@[simp] theorem okE_tup {n : Nat} {s : List D} : okE (n + 1) (.tup s) = s.all (okE n) := by simp [okE]
theorem okE_mono : ∀ {n m : Nat} {d : D}, n ≤ m → okE n d = true → okE m d = true
  | 0, _, d, _, h => by cases d <;> simp [okE] at h
  | n + 1, 0, _, hm, _ => by omega
  | n + 1, m + 1, d, hm, h => by
    cases d with
    | lst xs => simp only [okE, List.all_eq_true] at h ⊢; exact fun x hx => okE_mono (by omega) (h x hx)
    | tup xs => simp only [okE, List.all_eq_true] at h ⊢; exact fun x hx => okE_mono (by omega) (h x hx)
    | _ => simp_all [okE]
theorem peqs_all (n : Nat) (ih : ∀ x : D, okE n x = true → peq x x = true) : ∀ l : List D, (∀ x ∈ l, okE n x = true) → peqs l l = true
  | [], _ => by simp
  | x :: l, q => by rw [peqs_cc, ih x (q x List.mem_cons_self), peqs_all n ih l fun y hy => q y (List.mem_cons_of_mem _ hy)]; rfl
theorem peq_refl : ∀ {n : Nat} {d : D}, okE n d = true → peq d d = true
  | 0, d, h => by cases d <;> simp [okE] at h
  | n + 1, d, h => by
    cases d with
    | lst xs => simp only [okE, List.all_eq_true] at h; simp only [peq]; exact peqs_all n (fun x hx => peq_refl hx) xs h
    | tup xs => simp only [okE, List.all_eq_true] at h; simp only [peq]; exact peqs_all n (fun x hx => peq_refl hx) xs h
    | dic _ => simp [okE] at h
    | scr _ => simp [okE] at h
    | _ => simp [peq]
@[simp] theorem fLt_int {i j : Int} : fLt (.dat (.int i)) (.dat (.int j)) = some (.dat (.bl (decide (i < j)))) := rfl
@[simp] theorem fLe_int {i j : Int} : fLe (.dat (.int i)) (.dat (.int j)) = some (.dat (.bl (decide (i ≤ j)))) := rfl
@[simp] theorem fGt_int {i j : Int} : fGt (.dat (.int i)) (.dat (.int j)) = some (.dat (.bl (decide (j < i)))) := rfl
@[simp] theorem fGe_int {i j : Int} : fGe (.dat (.int i)) (.dat (.int j)) = some (.dat (.bl (decide (j ≤ i)))) := rfl
@[simp] theorem fIn_str {s t : List Nat} : fIn (.dat (.str s)) (.dat (.str t)) = some (.dat (.bl (subS s t))) := by simp [fIn, fInB]
@[simp] theorem fNotIn_str {s t : List Nat} : fNotIn (.dat (.str s)) (.dat (.str t)) = some (.dat (.bl (!subS s t))) := by simp [fNotIn, fInB]
@[simp] theorem fIsN_dat {d : D} : fIsN (.dat d) (.dat .non) = some (.dat (.bl (match d with | .non => true | _ => false))) := by cases d <;> rfl
@[simp] theorem fNotN_dat {d : D} : fNotN (.dat d) (.dat .non) = some (.dat (.bl (match d with | .non => false | _ => true))) := by cases d <;> rfl
@[simp] theorem fIdx_tup {ds : List D} {i : Int} : Tp (fIdx (.dat (.tup ds)) (.dat (.int i))) Ψ ↔ Tp (atI ds i) fun d => Ψ (.dat d) := by
  show Tp ((atI ds i).map M.dat) Ψ ↔ _
  rw [Tp_map]
@[simp] theorem fIdx_lst {ds : List D} {i : Int} : Tp (fIdx (.dat (.lst ds)) (.dat (.int i))) Ψ ↔ Tp (atI ds i) fun d => Ψ (.dat d) := by
  show Tp ((atI ds i).map M.dat) Ψ ↔ _
  rw [Tp_map]
@[simp] theorem fIdx_scr {ds : List Int} {i : Int} : Tp (fIdx (.dat (.scr ds)) (.dat (.int i))) Ψ ↔ Tp (atI ds i) fun d => Ψ (.dat (.int d)) := by
  show Tp ((atI ds i).map fun z => M.dat (.int z)) Ψ ↔ _
  rw [Tp_map]
@[simp] theorem fIdx_str {s : List Nat} {i : Int} : Tp (fIdx (.dat (.str s)) (.dat (.int i))) Ψ ↔ s.length ≤ 16000000 ∧ Tp (atI s i) fun c => Ψ (.dat (.str [c])) := by
  show Tp (if s.length ≤ 16000000 then (atI s i).map fun c => M.dat (.str [c]) else none) Ψ ↔ _
  by_cases h : s.length ≤ 16000000
  · rw [if_pos h, Tp_map]; simp [h]
  · rw [if_neg h]; simp [h]
@[simp] theorem fIdx_own {ms : List M} {i : Int} : Tp (fIdx (.lst ms) (.dat (.int i))) Ψ ↔ Tp (atI ms i) fun m => Tp (asDat m) fun d => Ψ (.dat d) := by
  show Tp (match atI ms i with
    | some (.dat d) => some (M.dat d)
    | _ => none) Ψ ↔ _
  cases atI ms i with
  | none => simp
  | some m => cases m <;> simp [asDat]
@[simp] theorem fSl_str {s : List Nat} {lo hi : Option Int} : fSl (.dat (.str s)) lo hi = if s.length ≤ 16000000 then some (.dat (.str (cutD s lo hi))) else none := rfl
@[simp] theorem fSl_tup {s : List D} {lo hi : Option Int} : fSl (.dat (.tup s)) lo hi = some (.dat (.tup (cutD s lo hi))) := rfl
@[simp] theorem fSl_lst {s : List D} {lo hi : Option Int} : fSl (.dat (.lst s)) lo hi = some (.lst ((cutD s lo hi).map M.dat)) := rfl
@[simp] theorem fSl_own {s : List M} {lo hi : Option Int} : Tp (fSl (.lst s) lo hi) Ψ ↔ Tp (dats s) fun ds => Ψ (.lst ((cutD ds lo hi).map M.dat)) := by
  show Tp (match dats s with
    | some ds => some (M.lst ((cutD ds lo hi).map M.dat))
    | none => none) Ψ ↔ _
  cases dats s <;> simp
@[simp] theorem fRev_lst {s : List D} : fRev (.dat (.lst s)) = some (.lst (s.reverse.map M.dat)) := rfl
@[simp] theorem fRev_own {s : List M} : Tp (fRev (.lst s)) Ψ ↔ Tp (dats s) fun ds => Ψ (.lst (ds.reverse.map M.dat)) := by
  show Tp (match dats s with
    | some ds => some (M.lst (ds.reverse.map M.dat))
    | none => none) Ψ ↔ _
  cases dats s <;> simp
@[simp] theorem fLen_str {s : List Nat} : fLen [.dat (.str s)] = if s.length ≤ 16000000 then some (.dat (.int s.length)) else none := rfl
@[simp] theorem fLen_tup {s : List D} : fLen [.dat (.tup s)] = some (.dat (.int s.length)) := rfl
@[simp] theorem fLen_lst {s : List D} : fLen [.dat (.lst s)] = some (.dat (.int s.length)) := rfl
@[simp] theorem fLen_scr {s : List Int} : fLen [.dat (.scr s)] = some (.dat (.int s.length)) := rfl
@[simp] theorem fLen_own {s : List M} : fLen [.lst s] = some (.dat (.int s.length)) := rfl
@[simp] theorem fMin2_int {i j : Int} : fMin2 [.dat (.int i), .dat (.int j)] = some (.dat (.int (if j < i then j else i))) := rfl
@[simp] theorem fMax2_int {i j : Int} : fMax2 [.dat (.int i), .dat (.int j)] = some (.dat (.int (if j > i then j else i))) := rfl
@[simp] theorem fInt_int {i : Int} : fInt [.dat (.int i)] = some (.dat (.int i)) := rfl
@[simp] theorem fInt_bl {b : Bool} : fInt [.dat (.bl b)] = some (.dat (.int (if b then 1 else 0))) := rfl
@[simp] theorem fList_tup {s : List D} : fList [.dat (.tup s)] = some (.lst (s.map M.dat)) := rfl
@[simp] theorem fList_lst {s : List D} : fList [.dat (.lst s)] = some (.lst (s.map M.dat)) := rfl
@[simp] theorem fList_own {s : List M} : Tp (fList [.lst s]) Ψ ↔ Tp (dats s) fun ds => Ψ (.lst (ds.map M.dat)) := by
  show Tp (match dats s with
    | some ds => some (M.lst (ds.map M.dat))
    | none => none) Ψ ↔ _
  cases dats s <;> simp
@[simp] theorem fTuple_tup {s : List D} : fTuple [.dat (.tup s)] = some (.dat (.tup s)) := rfl
@[simp] theorem fTuple_lst {s : List D} : fTuple [.dat (.lst s)] = some (.dat (.tup s)) := rfl
@[simp] theorem fTuple_own {s : List M} : Tp (fTuple [.lst s]) Ψ ↔ Tp (dats s) fun ds => Ψ (.dat (.tup ds)) := by
  show Tp (match dats s with
    | some ds => some (M.dat (.tup ds))
    | none => none) Ψ ↔ _
  cases dats s <;> simp
@[simp] theorem fStarts_str {s t : List Nat} : fStarts s [.dat (.str t)] = some (.dat (.bl (t.isPrefixOf s))) := rfl
@[simp] theorem fStarts3_str {s t : List Nat} {i : Int} : fStrM fStarts3 (.dat (.str s)) [.dat (.str t), .dat (.int i)] = if 0 ≤ i ∧ i ≤ s.length then some (.dat (.bl (t.isPrefixOf (s.drop i.toNat)))) else none := rfl
@[simp] theorem rng1_int {n : Int} : rng1 [.int n] = if -1000000 ≤ n ∧ n ≤ 1000000 then some (rngD 0 n.toNat) else none := rfl
@[simp] theorem rng2_int {n m : Int} : rng2 [.int n, .int m] = if -1000000 ≤ n ∧ n ≤ 1000000 ∧ -1000000 ≤ m ∧ m ≤ 1000000 then some (rngD n (m - n).toNat) else none := rfl
theorem dats_strs (ss : List (List Nat)) : dats (ss.map fun s => M.dat (.str s)) = some (ss.map D.str) := by
  rw [show (ss.map fun s => M.dat (.str s)) = (ss.map D.str).map M.dat by simp, dats_map]
theorem fJoin_strs {s : List Nat} {ms : M} {ss : List (List Nat)} (h : litems ms = some (ss.map D.str)) : fJoin s [ms] = if (ss.map List.length).sum + ss.length * s.length ≤ 16000000 then some (.dat (.str (TL.joinL s ss))) else none := by
  have e : strsOf ms = some ss := by
    unfold strsOf
    cases ms with
    | dat d =>
      cases d with
      | lst ds => simp only [h, strL_map]
      | _ => simp [litems] at h
    | lst l => simp only [h, strL_map]
    | _ => simp [litems] at h
  simp [fJoin, e]
theorem fSort_strs {rev : Bool} {ms : M} {ss : List (List Nat)} (h : litems ms = some (ss.map D.str)) (h1 : ss.length ≤ 100000) (h2 : ∀ s ∈ ss, s.length ≤ 16000000) : fSortLen rev [ms] = some (.lst (((ss.mergeSort (leLen rev)).map D.str).map M.dat)) := by
  simp only [fSortLen, h, strL_map]
  rw [if_pos ⟨h1, by simpa using h2⟩]
theorem fLenSet_strs {ms : M} {ss : List (List Nat)} (h : litems ms = some (ss.map D.str)) (h1 : ss.length ≤ 4000) : fLenSet ms = some (.dat (.int (apart ss.reverse))) := by
  simp only [fLenSet, h, strL_map]
  rw [if_pos h1]
end
/-! ### loops -/
section
variable {Φ : Fl → Env → Prop}
theorem T_forL {st : D → G Unit} {b : G Fl} (inv : List D → Env → Prop) (turn : ∀ d rest ρ, inv (d :: rest) ρ → T (st d) ρ fun _ ρ1 => T b ρ1 fun f ρ2 => match f with
    | .nx => inv rest ρ2
    | .ct => inv rest ρ2
    | .bk => Φ .nx ρ2
    | .rt m => Φ (.rt m) ρ2) (done : ∀ ρ, inv [] ρ → Φ .nx ρ) : ∀ {ds : List D} {ρ : Env}, inv ds ρ → T (gForL st b ds) ρ Φ
  | [], ρ, h => done ρ h
  | d :: ds, ρ, h => by
    unfold gForL
    rw [T_bind, T_calm]
    refine T.mono (turn d ds ρ h) fun _ ρ1 q => ?_
    rw [T_bind]
    refine T.mono q fun f ρ2 z => ?_
    cases f with
    | nx => exact T_forL inv turn done z
    | ct => exact T_forL inv turn done z
    | bk => exact z
    | rt m => exact z
theorem T_whileL {c : G Bool} {b : G Fl} (inv : Nat → Env → Prop) (turn : ∀ m ρ, inv m ρ → T c ρ fun t ρ1 => (t = true → T b ρ1 fun f ρ2 => match f with
    | .nx => ∃ m', m' < m ∧ inv m' ρ2
    | .ct => ∃ m', m' < m ∧ inv m' ρ2
    | .bk => Φ .nx ρ2
    | .rt m => Φ (.rt m) ρ2) ∧ (t = false → Φ .nx ρ1)) : ∀ (n m : Nat) (ρ : Env), inv m ρ → m < n → T (gWhile c b n) ρ Φ
  | 0, m, ρ, h, hm => by omega
  | n + 1, m, ρ, h, hm => by
    unfold gWhile
    rw [T_bind]
    refine T.mono (turn m ρ h) fun t ρ1 q => ?_
    cases t with
    | false => exact q.2 rfl
    | true =>
      simp only [cond_true, T_bind]
      refine T.mono (q.1 rfl) fun f ρ2 z => ?_
      cases f with
      | nx => obtain ⟨m', h1, h2⟩ := z; exact T_whileL inv turn n m' ρ2 h2 (by omega)
      | ct => obtain ⟨m', h1, h2⟩ := z; exact T_whileL inv turn n m' ρ2 h2 (by omega)
      | bk => exact z
      | rt m => exact z
end
/-! ### comprehensions -/
@[simp] theorem wipeE_nil {ρ : Env} : wipeE ρ [] = ρ := rfl
@[simp] theorem wipeE_cons {ρ : Env} {v : Nat} {vs : List Nat} : wipeE ρ (v :: vs) = (wipeE ρ vs).set v none := rfl
@[simp] theorem T_gComp {gi : G (List D)} {st : D → G Unit} {tt : G Bool} {ge : G D} {vs : List Nat} {ρ : Env} {Φ : M → Env → Prop} : T (gComp gi st tt ge vs) ρ Φ ↔ T gi ρ fun ds ρ1 => T (gLc st tt ge vs ds []) (wipeE ρ1 vs) fun acc ρ2 => acc.length ≤ 100000 ∧ Φ (.lst (acc.map M.dat)) (wipeE ρ2 vs) := by
  have e : ∀ (ds : List D) (ρ1 : Env), T (fun ρ1 => gBind (gLc st tt ge vs ds []) (fun acc ρ2 => if acc.length ≤ 100000 then some (.ok (M.lst (acc.map M.dat)) (wipeE ρ2 vs)) else none) (wipeE ρ1 vs)) ρ1 Φ ↔ T (gLc st tt ge vs ds []) (wipeE ρ1 vs) fun acc ρ2 => acc.length ≤ 100000 ∧ Φ (.lst (acc.map M.dat)) (wipeE ρ2 vs) := fun ds ρ1 => by
    show T (gBind (gLc st tt ge vs ds []) (fun acc ρ2 => if acc.length ≤ 100000 then some (.ok (M.lst (acc.map M.dat)) (wipeE ρ2 vs)) else none)) (wipeE ρ1 vs) Φ ↔ _
    rw [T_bind]
    constructor <;> intro h <;> refine T.mono h fun acc ρ2 q => ?_
    · unfold T at q
      dsimp only at q
      by_cases h1 : acc.length ≤ 100000
      · rw [if_pos h1] at q; exact ⟨h1, q⟩
      · rw [if_neg h1] at q; exact q.elim
    · unfold T
      dsimp only
      rw [if_pos q.1]
      exact q.2
  unfold gComp
  rw [T_bind]
  constructor <;> intro h <;> refine T.mono h fun ds ρ1 q => ?_
  · exact (e ds ρ1).mp q
  · exact (e ds ρ1).mpr q
theorem T_gLc {st : D → G Unit} {tt : G Bool} {ge : G D} {vs : List Nat} {Φ : List D → Env → Prop} (inv : List D → List D → Env → Prop)
    (turn : ∀ d ds acc ρ, inv (d :: ds) acc ρ → T (st d) ρ fun _ ρ1 => T tt ρ1 fun b ρ2 => (b = true → T ge ρ2 fun y ρ3 => inv ds (acc ++ [y]) (wipeE ρ3 vs)) ∧ (b = false → inv ds acc (wipeE ρ2 vs)))
    (done : ∀ acc ρ, inv [] acc ρ → Φ acc ρ) : ∀ {ds acc : List D} {ρ : Env}, inv ds acc ρ → T (gLc st tt ge vs ds acc) ρ Φ
  | [], acc, ρ, h => done acc ρ h
  | d :: ds, acc, ρ, h => by
    unfold gLc
    rw [T_bind, T_calm]
    refine T.mono (turn d ds acc ρ h) fun _ ρ1 q => ?_
    rw [T_bind, T_calm]
    refine T.mono q fun b ρ2 z => ?_
    cases b with
    | true =>
      simp only [cond_true, T_bind, T_calm]
      refine T.mono (z.1 rfl) fun y ρ3 w => ?_
      exact T_gLc inv turn done w
    | false => exact T_gLc inv turn done (z.2 rfl)
@[simp] theorem Tp_gCompP {gi : Env → Option (List D)} {st : D → G Unit} {tt : Env → Option Bool} {ge : Env → Option M} {vs : List Nat} {ρ : Env} {Ψ : M → Prop} : Tp (gCompP gi st tt ge vs ρ) Ψ ↔ Tp (gi ρ) fun ds => Tp (gLcP st tt ge (wipeE ρ vs) ds) fun acc => acc.length ≤ 100000 ∧ Ψ (.lst (acc.map M.dat)) := by
  unfold gCompP
  cases gi ρ with
  | none => simp
  | some ds =>
    simp only [Tp_some]
    cases gLcP st tt ge (wipeE ρ vs) ds with
    | none => simp
    | some acc => simp
theorem Tp_gTurn {st : D → G Unit} {tt : Env → Option Bool} {ge : Env → Option M} {ρ : Env} {d : D} {Ψ : Option D → Prop} : Tp (gTurn st tt ge ρ d) Ψ ↔ T (st d) ρ fun _ ρ3 => Tp (tt ρ3) fun b => (b = true → Tp (ge ρ3) fun m => Tp (asDat m) fun y => Ψ (some y)) ∧ (b = false → Ψ none) := by
  unfold gTurn T
  cases st d ρ with
  | none => simp
  | some r =>
    cases r with
    | ex C ρ' => simp
    | ok u ρ3 =>
      cases u
      dsimp only
      cases tt ρ3 with
      | none => simp
      | some b =>
        cases b with
        | false => simp
        | true =>
          cases ge ρ3 with
          | none => simp
          | some m => cases m <;> simp [asDat]
theorem gLcP_map {α : Type} {st : D → G Unit} {tt : Env → Option Bool} {ge : Env → Option M} {ρ : Env} {f : α → D} {p : α → Bool} {h : α → D} : ∀ {xs : List α}, (∀ x ∈ xs, T (st (f x)) ρ fun _ ρ3 => Tp (tt ρ3) fun b => b = p x ∧ (p x = true → Tp (ge ρ3) fun m => m = .dat (h x))) → gLcP st tt ge ρ (xs.map f) = some ((xs.filter p).map h)
  | [], _ => rfl
  | x :: xs, q => by
    have e1 : Tp (gTurn st tt ge ρ (f x)) fun r => r = if p x then some (h x) else none := by
      rw [Tp_gTurn]
      refine T.mono (q x List.mem_cons_self) fun _ ρ3 z => Tp.mono z fun b ⟨e, w⟩ => ?_
      subst e
      refine ⟨fun hb => ?_, fun hb => ?_⟩
      · refine Tp.mono (w hb) fun m em => ?_
        subst em
        simp [hb]
      · simp [hb]
    have e2 := gLcP_map (xs := xs) fun y hy => q y (List.mem_cons_of_mem _ hy)
    cases e3 : gTurn st tt ge ρ (f x) with
    | none => rw [e3] at e1; exact e1.elim
    | some r =>
      rw [e3] at e1
      simp only [Tp_some] at e1
      simp only [List.map_cons, gLcP, e3, e2]
      subst e1
      by_cases hp : p x = true
      · simp [hp]
      · simp [hp]
end Y
/-! Y: more of what mirrors answer. -/
namespace Y
open PySem L2
@[simp] theorem T_gToLst {n : Nat} {s : List D → G Unit} {ds : List D} {ρ : Env} {Φ : Unit → Env → Prop} : T (gToLst n s (.lst ds)) ρ Φ ↔ ds.length = n ∧ T (s ds) ρ Φ := by
  unfold gToLst
  by_cases h : ds.length = n
  · simp [h]
  · simp [h, T]
@[simp] theorem T_gExt {pf : Env → Option Pth} {ge : Env → Option M} {ρ : Env} {Φ : Fl → Env → Prop} : T (gExt pf ge) ρ Φ ↔ Tp (pf ρ) fun p => Tp (getP ρ p) fun l => Tp (asLst l) fun ms => Tp (ge ρ) fun e => Tp (litems e) fun ds => ms.length + ds.length ≤ 100000 ∧ Φ .nx (putP ρ p (.lst (ms ++ ds.map M.dat))) := by
  unfold gExt T
  dsimp only
  cases pf ρ with
  | none => simp
  | some p =>
    dsimp only
    simp only [Tp_some]
    cases getP ρ p with
    | none => simp
    | some l =>
      cases l with
      | lst ms =>
        cases ge ρ with
        | none => simp [asLst]
        | some e =>
          dsimp only
          simp only [Tp_some, asLst_lst]
          cases litems e with
          | none => simp
          | some ds =>
            by_cases h : ms.length + ds.length ≤ 100000
            · simp [h]
            · simp [h]
      | _ => simp [asLst]
@[simp] theorem T_gFAug {c : Nat} {f : Str} {op : Int → Int → Int} {pf : Env → Option Pth} {ge : Env → Option M} {ρ : Env} {Φ : Fl → Env → Prop} : T (gFAug c f op pf ge) ρ Φ ↔ Tp (pf ρ) fun p => Tp (getP ρ p) fun o => Tp (ge ρ) fun e => Tp (asDat e) fun d => Tp (asI d) fun j => ∃ fs, o = .obj c fs ∧ fs.length < 1000 ∧ Tp (lookM f fs) fun m => Tp (asDat m) fun d0 => Tp (asI d0) fun i => Φ .nx (putP ρ p (.obj c (putM f (.dat (.int (op i j))) fs))) := by
  unfold gFAug T
  dsimp only
  cases pf ρ with
  | none => simp
  | some p =>
    dsimp only
    simp only [Tp_some]
    cases getP ρ p with
    | none => simp
    | some o =>
      cases ge ρ with
      | none => cases o <;> simp
      | some e =>
        cases e with
        | dat d =>
          cases d with
          | int j =>
            cases o with
            | obj c' fs =>
              simp only [Tp_some, asDat_dat, asI_int]
              cases e9 : lookM f fs with
              | none => simp [e9]
              | some m =>
                cases m with
                | dat d0 =>
                  cases d0 with
                  | int i =>
                    by_cases h1 : c' = c
                    · subst h1
                      by_cases h2 : fs.length < 1000
                      · simp [h2, e9]
                      · simp [h2]
                    · simp [h1]
                  | _ => simp [e9, asI]
                | _ => simp [e9, asDat]
            | _ => simp
          | _ => cases o <;> simp [asI]
        | _ => cases o <;> simp [asDat]
@[simp] theorem fMul_own {ms : List M} {k : Int} {Ψ : M → Prop} : Tp (fMul (.lst ms) (.dat (.int k))) Ψ ↔ Tp (dats ms) fun xs => (-100000 ≤ k ∧ k ≤ 100000 ∧ xs.length * k.toNat ≤ 100000) ∧ Ψ (.lst ((List.replicate k.toNat xs).flatten.map M.dat)) := by
  unfold fMul
  simp only [litems]
  cases dats ms with
  | none => simp
  | some xs => simp only [Tp_ite, Tp_some]
/-- a text so many times -/
def repS (n : Nat) (s : List Nat) : List Nat := (List.replicate n s).flatten
theorem repS_in {t : List Nat} {n : Nat} {P : Nat → Prop} (h : ∀ x ∈ t, P x) : ∀ x ∈ repS n t, P x := fun x hx => by
  obtain ⟨l, hl, hx⟩ := List.mem_flatten.mp hx
  rw [List.eq_of_mem_replicate hl] at hx
  exact h x hx
theorem repS_len {n : Nat} {s : List Nat} : (repS n s).length = n * s.length := by simp [repS]
@[simp] theorem fMulS_str {s : List Nat} {k : Int} : fMulS (.dat (.str s)) (.dat (.int k)) = if 0 ≤ k ∧ k ≤ 100000 ∧ s.length * k.toNat ≤ 16000000 then some (.dat (.str (repS k.toNat s))) else none := rfl
end Y
/-! Y: mirrors, printed by gen.py -/
namespace Y
open PySem L2
def g_law_bag : G Fl :=
 (gThen (sSet 2 (gView (cM (.dat (.int 0)))))
 (gThen (sIf (gOf (tB' (n2 fLt (gV 1) (nL fLen (psCons (gV 0) psNil)))))
 (sSet 2 (gView (n2 fMod (n2 fIdx (gV 0) (gV 1)) (n2 fPow (cM (.dat (.int 10))) (cM (.dat (.int 60)))))))
 gSkip)
 (gThen (sSet 3 (gView (n2 fAdd (cM (.dat (.int 1))) (n2 fMod (n2 fAdd (n2 fAdd (n2 fAdd (n2 fMul (n2 fMod (gV 2) (cM (.dat (.int 2147483629)))) (cM (.dat (.int 16807)))) (n2 fMul (n2 fMul (cM (.dat (.int 40009))) (gV 1)) (gV 1))) (n2 fMul (cM (.dat (.int 7919))) (gV 1))) (cM (.dat (.int 1009)))) (cM (.dat (.int 2147483645)))))))
 (gThen (sIf (gOf (tB' (n2 fLt (gV 2) (n2 fPow (cM (.dat (.int 10))) (cM (.dat (.int 18)))))))
 (sRet (gOf (nLst (pCons (cM (.dat (.int 0))) (pCons (gV 3) pNil)))))
 gSkip)
 (sRet (gOf (nLst (pCons (gV 2) (pCons (gV 3) pNil)))))))))
def F_law_bag : List M → Option Rr := ar 2 (defF 4 none g_law_bag)
theorem ni_law_bag (ms : List M) (o : Rr) (h : F_law_bag ms = some o) : defF 4 none g_law_bag ms = some o := ar_imp (fun _ _ h => h) ms o h

def g_law_take : G Fl :=
 (gThen (sIf (gOf (tB' (n2 fGt (n2 fIdx (gV 0) (cM (.dat (.int 0)))) (cM (.dat (.int 0))))))
 (gThen (sSet 2 (gView (n2 fMod (n2 fIdx (gV 0) (cM (.dat (.int 0)))) (gV 1))))
 (gThen (gSetI (gView (n2 fDiv (n2 fIdx (gV 0) (cM (.dat (.int 0)))) (gV 1))) (vS 0) (cM (.dat (.int 0))))
 (sRet (mE (xE (gV 2))))))
 gSkip)
 (gThen (gSetI (gView (n2 fMod (n2 fMul (n2 fIdx (gV 0) (cM (.dat (.int 1)))) (cM (.dat (.int 48271)))) (cM (.dat (.int 2147483647))))) (vS 0) (cM (.dat (.int 1))))
 (sRet (gOf (n2 fMod (n2 fDiv (n2 fMod (n2 fMul (n2 fDiv (n2 fIdx (gV 0) (cM (.dat (.int 1)))) (cM (.dat (.int 13)))) (n2 fAdd (n2 fMod (n2 fIdx (gV 0) (cM (.dat (.int 1)))) (cM (.dat (.int 32749)))) (cM (.dat (.int 17))))) (cM (.dat (.int 2147483629)))) (cM (.dat (.int 32)))) (gV 1))))))
def F_law_take : List M → Option Rr := ar 2 (defF 3 (some 0) g_law_take)
theorem ni_law_take (ms : List M) (o : Rr) (h : F_law_take ms = some o) : defF 3 (some 0) g_law_take ms = some o := ar_imp (fun _ _ h => h) ms o h

def g_law_mark : G Fl :=
 (gThen (sSet 2 (gView (cM (.dat (.str (sc ""))))))
 (gThen (sFor (xRng1 (xCons (xM (x2 fAdd (gView (cM (.dat (.int 1)))) (xM (x2 fIdx (xM (xLst (xCons (gView (cM (.dat (.int 0)))) (xCons (gView (cM (.dat (.int 0)))) (xCons (gView (cM (.dat (.int 1)))) (xCons (xM (gCallS true 0 F_law_take (gHere 0 (xCons (gView (cM (.dat (.int 4)))) xNil)))) xNil)))))) (xM (gCallS true 0 F_law_take (gHere 0 (xCons (gView (cM (.dat (.int 4)))) xNil)))))))) xNil)) (gTo 3)
 (sSet 2 (xM (x2 fAdd (xE (gV 2)) (xM (x2 fIdx (xE (gV 1)) (xM (gCallS true 0 F_law_take (gHere 0 (xCons (gView (nL fLen (psCons (gV 1) psNil))) xNil))))))))))
 (sRet (mE (xE (gV 2))))))
def F_law_mark : List M → Option Rr := ar 2 (defF 4 (some 0) g_law_mark)
theorem ni_law_mark (ms : List M) (o : Rr) (h : F_law_mark ms = some o) : defF 4 (some 0) g_law_mark ms = some o := ar_imp (fun _ _ h => h) ms o h

def g_law_fits_book : G Fl :=
 (gThen (sFor (xItems (xE (gV 0))) (gToTup 2 (gToCons (gTo 1) (gToCons (gTo 2) gToNil)))
 (gThen (sFor (xItems (xE (gV 0))) (gToTup 2 (gToCons (gTo 3) (gToCons (gTo 4) gToNil)))
 (gThen (sSet 5 (gView (gCompP (pItems (gV 4)) (gTo 6) (tB' (n2 fIn (gV 1) (n2 fAdd (n2 fAdd (n2 fIdx (gV 6) (cM (.dat (.int 0)))) (cM (.dat (.str (sc " "))))) (n2 fIdx (gV 6) (cM (.dat (.int 2))))))) (gV 6) [6])))
 (sIf (gOf (tbAnd (tB' (n2 fNe (gV 1) (cM (.dat (.str (sc "")))))) (tB' (n2 fNe (gV 5) (nLst pNil)))))
 (sRet (gOf (cM (.dat (.bl false)))))
 gSkip)))
 (gThen (sIf (gOf (tB' (n2 fNe (n1 fLenSet (gCompP (pItems (gV 2)) (gTo 6) tbYes (n2 fIdx (gV 6) (cM (.dat (.int 0)))) [6])) (nL fLen (psCons (gV 2) psNil)))))
 (sRet (gOf (cM (.dat (.bl false)))))
 gSkip)
 (sFor (xItems (xE (gV 2))) (gTo 6)
 (sIf (gOf (tB' (n2 fNe (gCompP (pItems (n2 fIdx (n2 fIdx (gV 0) (n2 fIdx (gV 6) (cM (.dat (.int 1))))) (cM (.dat (.int 1))))) (gTo 7) (tB' (nM1 fStarts (n2 fIdx (gV 7) (cM (.dat (.int 0)))) (n2 fIdx (gV 6) (cM (.dat (.int 2)))))) (gV 7) [7]) (nLst pNil))))
 (sRet (gOf (cM (.dat (.bl false)))))
 gSkip)))))
 (sRet (gOf (cM (.dat (.bl true))))))
def F_law_fits_book : List M → Option Rr := ar 1 (defF 8 none g_law_fits_book)
theorem ni_law_fits_book (ms : List M) (o : Rr) (h : F_law_fits_book ms = some o) : defF 8 none g_law_fits_book ms = some o := ar_imp (fun _ _ h => h) ms o h

def g_law_book : G Fl :=
 (gThen (sSet 1 (xM (x2 fIdx (gView (nLst (pCons (cM (.dat (.str (sc "ab")))) (pCons (cM (.dat (.str (sc "ab<>")))) (pCons (cM (.dat (.str (sc "abc\"{}*/-\n")))) (pCons (cM (.dat (.str (sc "\n#\"'({[<ab`")))) pNil)))))) (xM (gCallS true 0 F_law_take (gHere 0 (xCons (gView (cM (.dat (.int 4)))) xNil)))))))
 (gThen (sSet 2 (xM (x2 fIdx (gView (nLst (pCons (cM (.dat (.str (sc "")))) (pCons (cM (.dat (.str (sc "\\")))) (pCons (cM (.dat (.str (sc "~")))) (pCons (cM (.dat (.str (sc "^")))) pNil)))))) (xM (gCallS true 0 F_law_take (gHere 0 (xCons (gView (cM (.dat (.int 4)))) xNil)))))))
 (gThen (sSet 3 (xM (x2 fAdd (gView (cM (.dat (.int 1)))) (xM (gCallS true 0 F_law_take (gHere 0 (xCons (xM (x2 fIdx (gView (nLst (pCons (cM (.dat (.int 2))) (pCons (cM (.dat (.int 4))) (pCons (cM (.dat (.int 6))) pNil))))) (xM (gCallS true 0 F_law_take (gHere 0 (xCons (gView (cM (.dat (.int 3)))) xNil)))))) xNil)))))))
 (gThen (sSet 4 (xM (gComp (xRng1 (xCons (xE (gV 3)) xNil)) (gTo 9) tYesX (xTup (xCons (xM (x2 fIdx (gView (nLst (pCons (gV 2) (pCons (cM (.dat (.str (sc "")))) (pCons (cM (.dat (.str (sc "\\")))) pNil))))) (xM (gCallS true 0 F_law_take (gHere 0 (xCons (gView (cM (.dat (.int 3)))) xNil)))))) (xCons (gView (nTup pNil)) xNil))) [9])))
 (gThen (sFor (xRng1 (xCons (xM (x2 fAdd (gView (cM (.dat (.int 2)))) (xM (gCallS true 0 F_law_take (gHere 0 (xCons (gView (n2 fMul (cM (.dat (.int 3))) (gV 3))) xNil)))))) xNil)) (gTo 5)
 (gThen (sSet 6 (xM (x2 fIdx (xM (xLst (xCons (gView (cM (.dat (.int 0)))) (xCons (xM (gCallS true 0 F_law_take (gHere 0 (xCons (xE (gV 3)) xNil)))) xNil)))) (xM (gCallS true 0 F_law_take (gHere 0 (xCons (gView (cM (.dat (.int 2)))) xNil)))))))
 (gThen (sSet 7 (xTup (xCons (xM (gCallS true 0 F_law_mark (gHere 0 (xCons (xE (gV 1)) xNil)))) (xCons (xM (gCallS true 0 F_law_take (gHere 0 (xCons (xE (gV 3)) xNil)))) (xCons (xM (gCallS true 0 F_law_mark (gHere 0 (xCons (xE (gV 1)) xNil)))) xNil)))))
 (gThen (sSetM 8 (gOf (nL fList (psCons (gV 4) psNil))))
 (gThen (gSetI (gView (nTup (pCons (n2 fIdx (n2 fIdx (gV 4) (gV 6)) (cM (.dat (.int 0)))) (pCons (n2 fAdd (n2 fIdx (n2 fIdx (gV 4) (gV 6)) (cM (.dat (.int 1)))) (nTup (pCons (gV 7) pNil))) pNil)))) (vS 8) (gV 6))
 (sIf (tAndX (gOf (tB' (n2 fLt (nL fLen (psCons (n2 fIdx (n2 fIdx (gV 4) (gV 6)) (cM (.dat (.int 1)))) psNil)) (cM (.dat (.int 6)))))) (tX (xM (gCall true F_law_fits_book (xCons (gFrz 8) xNil)))))
 (sSet 4 (gFrz 8))
 gSkip))))))
 (sRet (gOf (nL fTuple (psCons (gV 4) psNil)))))))))
def F_law_book : List M → Option Rr := ar 1 (defF 10 (some 0) g_law_book)
theorem ni_law_book (ms : List M) (o : Rr) (h : F_law_book ms = some o) : defF 10 (some 0) g_law_book ms = some o := ar_imp (fun _ _ h => h) ms o h

def g_law_marks : G Fl :=
 (gThen (sSetM 1 (gOf (nLst pNil)))
 (gThen (sFor (xItems (xE (gV 0))) (gToTup 2 (gToCons (gTo 2) (gToCons (gTo 3) gToNil)))
 (gThen (sFor (xItems (xE (gV 3))) (gTo 4)
 (sSetM 1 (gOf (n2 fAdd (gV 1) (nLst (pCons (n2 fIdx (gV 4) (cM (.dat (.int 0)))) (pCons (n2 fIdx (gV 4) (cM (.dat (.int 2)))) pNil)))))))
 (sIf (gOf (tB' (n2 fNe (gV 2) (cM (.dat (.str (sc "")))))))
 (gApp (vS 1) (gV 2))
 gSkip)))
 (sRet (gTake 1))))
def F_law_marks : List M → Option Rr := ar 1 (defF 5 none g_law_marks)
theorem ni_law_marks (ms : List M) (o : Rr) (h : F_law_marks ms = some o) : defF 5 none g_law_marks ms = some o := ar_imp (fun _ _ h => h) ms o h

def g_law_text : G Fl :=
 (gThen (sSet 3 (xM (x2 fAdd (xM (gCall true F_law_marks (xCons (xE (gV 1)) xNil))) (gView (nLst (pCons (cM (.dat (.str (sc "x")))) (pCons (cM (.dat (.str (sc " ")))) (pCons (cM (.dat (.str (sc "a")))) (pCons (cM (.dat (.str (sc "b")))) (pCons (cM (.dat (.str (sc "\n")))) pNil))))))))))
 (gThen (sSet 4 (gView (cM (.dat (.str (sc ""))))))
 (gThen (sFor (xRng1 (xCons (xM (gCallS true 0 F_law_take (gHere 0 (xCons (xE (gV 2)) xNil)))) xNil)) (gTo 5)
 (gThen (sSet 6 (xM (x2 fIdx (xE (gV 3)) (xM (gCallS true 0 F_law_take (gHere 0 (xCons (gView (nL fLen (psCons (gV 3) psNil))) xNil)))))))
 (gThen (sIf (tX (xM (x2 fEq (xM (gCallS true 0 F_law_take (gHere 0 (xCons (gView (cM (.dat (.int 6)))) xNil)))) (gView (cM (.dat (.int 0)))))))
 (sSet 6 (xM (xSlX fSl (xE (gV 6)) xoNo (xoAt (xM (x2 fAdd (gView (cM (.dat (.int 1)))) (xM (gCallS true 0 F_law_take (gHere 0 (xCons (gView (nL fLen (psCons (gV 6) psNil))) xNil))))))))))
 gSkip)
 (sSet 4 (gView (n2 fAdd (gV 4) (gV 6)))))))
 (sRet (mE (xE (gV 4)))))))
def F_law_text : List M → Option Rr := ar 3 (defF 7 (some 0) g_law_text)
theorem ni_law_text (ms : List M) (o : Rr) (h : F_law_text ms = some o) : defF 7 (some 0) g_law_text ms = some o := ar_imp (fun _ _ h => h) ms o h

def g_marks_at : G Fl :=
 (gThen (sSetM 5 (gOf (gCompP (pItems (n2 fIdx (n2 fIdx (gV 0) (gV 1)) (cM (.dat (.int 1))))) (gTo 6) tbYes (n2 fIdx (gV 6) (cM (.dat (.int 0)))) [6])))
 (gThen (sIf (gOf (tB' (n2 fNotN (gV 2) (cM (.dat .non)))))
 (gApp (vS 5) (gV 2))
 gSkip)
 (sRet (gOf (nL (fSortLen true) (psCons (gCompP (pItems (gV 5)) (gTo 7) (tB' (nB (fStrM fStarts3) (gV 3) (psCons (gV 7) (psCons (gV 4) psNil)))) (gV 7) [7]) psNil))))))
def F_marks_at : List M → Option Rr := ar 5 (defF 8 none g_marks_at)
theorem ni_marks_at (ms : List M) (o : Rr) (h : F_marks_at ms = some o) : defF 8 none g_marks_at ms = some o := ar_imp (fun _ _ h => h) ms o h

def g_Frames_tongue : G Fl :=
 (gThen (sIf (gOf (tB' (n2 fEq (gP (gFld 0 "doors" (vS 0))) (nLst pNil))))
 (sRet (gOf (cM (.dat (.int 0)))))
 gSkip)
 (sRet (gOf (n2 fIdx (n2 fIdx (gP (gFld 0 "doors" (vS 0))) (n1 fNeg (cM (.dat (.int 1))))) (cM (.dat (.int 1)))))))
def F_Frames_tongue : List M → Option Rr := ar 1 (defF 1 (some 0) g_Frames_tongue)
theorem ni_Frames_tongue (ms : List M) (o : Rr) (h : F_Frames_tongue ms = some o) : defF 1 (some 0) g_Frames_tongue ms = some o := ar_imp (fun _ _ h => h) ms o h

def g_Frames_close : G Fl :=
 (gThen (sIf (gOf (tB' (n2 fEq (gP (gFld 0 "doors" (vS 0))) (nLst pNil))))
 (sRet (gOf (cM (.dat .non))))
 gSkip)
 (sRet (gOf (n2 fIdx (n2 fIdx (gP (gFld 0 "doors" (vS 0))) (n1 fNeg (cM (.dat (.int 1))))) (cM (.dat (.int 2)))))))
def F_Frames_close : List M → Option Rr := ar 1 (defF 1 (some 0) g_Frames_close)
theorem ni_Frames_close (ms : List M) (o : Rr) (h : F_Frames_close ms = some o) : defF 1 (some 0) g_Frames_close ms = some o := ar_imp (fun _ _ h => h) ms o h

def g_Frames_word : G Fl :=
 (gThen (sIf (tX (xM (x2 fEq (xE (gV 1)) (xM (gMeth true 0 "close" F_Frames_close (vS 0) pNil)))))
 (sRet (gOf (cM (.dat (.str (sc "close"))))))
 gSkip)
 (sRet (gOf (cM (.dat (.str (sc "open")))))))
def F_Frames_word : List M → Option Rr := ar 2 (defF 2 (some 0) g_Frames_word)
theorem ni_Frames_word (ms : List M) (o : Rr) (h : F_Frames_word ms = some o) : defF 2 (some 0) g_Frames_word ms = some o := ar_imp (fun _ _ h => h) ms o h

def g_Frames_step : G Fl :=
 (gThen (sSet 3 (xM (x2 fIdx (xM (x2 fIdx (xE (gP (gFld 0 "book" (vS 0)))) (xM (gMeth true 0 "tongue" F_Frames_tongue (vS 0) pNil)))) (gView (cM (.dat (.int 0)))))))
 (gThen (sIf (gOf (tbAnd (tB' (n2 fNe (gV 3) (cM (.dat (.str (sc "")))))) (tB' (n2 fEq (n2 fIdx (gV 1) (gV 2)) (gV 3)))))
 (gThen (sIf (gOf (tB' (n2 fEq (n2 fAdd (gV 2) (cM (.dat (.int 1)))) (nL fLen (psCons (gV 1) psNil)))))
 (sRet (gOf (nTup (pCons (cM (.dat (.int 1))) (pCons (cM (.dat (.str (sc "cut")))) pNil)))))
 gSkip)
 (sRet (gOf (nTup (pCons (cM (.dat (.int 2))) (pCons (cM (.dat (.str (sc "escape")))) pNil))))))
 gSkip)
 (gThen (sSet 4 (xM (gCall true F_marks_at (xCons (xE (gP (gFld 0 "book" (vS 0)))) (xCons (xM (gMeth true 0 "tongue" F_Frames_tongue (vS 0) pNil)) (xCons (xM (gMeth true 0 "close" F_Frames_close (vS 0) pNil)) (xCons (xE (gV 1)) (xCons (xE (gV 2)) xNil))))))))
 (gThen (sIf (gOf (tB' (n2 fEq (gV 4) (nLst pNil))))
 (sRet (gOf (nTup (pCons (cM (.dat (.int 1))) (pCons (cM (.dat (.str (sc "sign")))) pNil)))))
 gSkip)
 (sRet (mE (xTup (xCons (gView (nL fLen (psCons (n2 fIdx (gV 4) (cM (.dat (.int 0)))) psNil))) (xCons (xM (gMeth true 0 "word" F_Frames_word (vS 0) (pCons (n2 fIdx (gV 4) (cM (.dat (.int 0)))) pNil))) xNil)))))))))
def F_Frames_step : List M → Option Rr := ar 3 (defF 5 (some 0) g_Frames_step)
theorem ni_Frames_step (ms : List M) (o : Rr) (h : F_Frames_step ms = some o) : defF 5 (some 0) g_Frames_step ms = some o := ar_imp (fun _ _ h => h) ms o h

def g_door_by : G Fl :=
 (sRet (gOf (n2 fIdx (gCompP (pItems (n2 fIdx (n2 fIdx (gV 0) (gV 1)) (cM (.dat (.int 1))))) (gTo 3) (tB' (n2 fEq (n2 fIdx (gV 3) (cM (.dat (.int 0)))) (gV 2))) (gV 3) [3]) (cM (.dat (.int 0))))))
def F_door_by : List M → Option Rr := ar 3 (defF 4 none g_door_by)
theorem ni_door_by (ms : List M) (o : Rr) (h : F_door_by ms = some o) : defF 4 none g_door_by ms = some o := ar_imp (fun _ _ h => h) ms o h

def g_Frames_do : G Fl :=
 (gThen (sSet 5 (xM (gMeth true 0 "tongue" F_Frames_tongue (vS 0) pNil)))
 (gThen (sSet 6 (gView (nL fLen (psCons (gP (gFld 0 "doors" (vS 0))) psNil))))
 (gThen (sIf (gOf (tB' (n2 fEq (gV 4) (cM (.dat (.str (sc "open")))))))
 (gThen (sSet 7 (xM (gCall true F_door_by (xCons (xE (gP (gFld 0 "book" (vS 0)))) (xCons (xE (gV 5)) (xCons (gView (nSl fSl (gV 1) (oAt (gV 2)) (oAt (n2 fAdd (gV 2) (gV 3))))) xNil))))))
 (gApp (gFld 0 "doors" (vS 0)) (nTup (pCons (gV 2) (pCons (n2 fIdx (gV 7) (cM (.dat (.int 1)))) (pCons (n2 fIdx (gV 7) (cM (.dat (.int 2)))) pNil))))))
 gSkip)
 (gThen (sIf (gOf (tB' (n2 fEq (gV 4) (cM (.dat (.str (sc "close")))))))
 (gThen (sDrop (gPop (gFld 0 "doors" (vS 0))))
 (gThen (sSet 5 (xM (gMeth true 0 "tongue" F_Frames_tongue (vS 0) pNil)))
 (gAug 6 isub (gView (cM (.dat (.int 1)))))))
 gSkip)
 (sRet (gOf (nTup (pCons (gV 2) (pCons (gV 3) (pCons (gV 4) (pCons (gV 5) (pCons (gV 6) pNil))))))))))))
def F_Frames_do : List M → Option Rr := ar 5 (defF 8 (some 0) g_Frames_do)
theorem ni_Frames_do (ms : List M) (o : Rr) (h : F_Frames_do ms = some o) : defF 8 (some 0) g_Frames_do ms = some o := ar_imp (fun _ _ h => h) ms o h

def g_read_on : G Fl :=
 (gThen (sSetM 3 (gOf (nLst pNil)))
 (gThen (gWhile (gOf (tB' (n2 fLt (gV 2) (nL fLen (psCons (gV 1) psNil)))))
 (gThen (sSetT (gToTup 2 (gToCons (gTo 4) (gToCons (gTo 5) gToNil))) (xM (gMeth true 0 "step" F_Frames_step (vS 0) (pCons (gV 1) (pCons (gV 2) pNil)))))
 (gThen (gAppS 3 (xM (gMeth true 0 "do" F_Frames_do (vS 0) (pCons (gV 1) (pCons (gV 2) (pCons (gV 4) (pCons (gV 5) pNil)))))))
 (gAug 2 iadd (xE (gV 4))))) 1000000)
 (sRet (gTake 3))))
def F_read_on : List M → Option Rr := ar 3 (defF 6 (some 0) g_read_on)
theorem ni_read_on (ms : List M) (o : Rr) (h : F_read_on ms = some o) : defF 6 (some 0) g_read_on ms = some o := ar_imp (fun _ _ h => h) ms o h

def g_Frames___init__ : G Fl :=
 (gThen (gFSet 0 "book" (mE (xE (gV 1))) (vS 0))
 (gFSet 0 "doors" (gOf (nLst pNil)) (vS 0)))
def F_Frames___init__ : List M → Option Rr := ar 2 (defF 2 (some 0) g_Frames___init__)
theorem ni_Frames___init__ (ms : List M) (o : Rr) (h : F_Frames___init__ ms = some o) : defF 2 (some 0) g_Frames___init__ ms = some o := ar_imp (fun _ _ h => h) ms o h

def g_steps : G Fl :=
 (sRet (gCallT true 0 F_read_on (fHere (gMake true 0 F_Frames___init__ (xCons (xE (gV 0)) xNil)) (xCons (xE (gV 1)) (xCons (gView (cM (.dat (.int 0)))) xNil)))))
def F_steps : List M → Option Rr := ar 2 (defF 2 none g_steps)
theorem ni_steps (ms : List M) (o : Rr) (h : F_steps ms = some o) : defF 2 none g_steps ms = some o := ar_imp (fun _ _ h => h) ms o h

def g_law_fitting : G Fl :=
 (gThen (sSet 4 (gView (cM (.dat (.int 0)))))
 (gThen (sIf (gOf (tB' (n2 fNe (gV 1) (nLst pNil))))
 (sSet 4 (gView (n2 fIdx (n2 fIdx (gV 1) (n1 fNeg (cM (.dat (.int 1))))) (cM (.dat (.int 1))))))
 gSkip)
 (gThen (sSet 5 (gView (n2 fAdd (gCompP (pItems (n2 fIdx (n2 fIdx (gV 0) (gV 4)) (cM (.dat (.int 1))))) (gTo 6) tbYes (n2 fIdx (gV 6) (cM (.dat (.int 0)))) [6]) (gCompP (pItems (nSl fSl (gV 1) (oAt (n1 fNeg (cM (.dat (.int 1))))) oNo)) (gTo 6) tbYes (n2 fIdx (gV 6) (cM (.dat (.int 2)))) [6]))))
 (sRet (gOf (n1 fRev (nL (fSortLen false) (psCons (gCompP (pItems (gV 5)) (gTo 7) (tB' (n2 fEq (nSl fSl (gV 2) (oAt (gV 3)) (oAt (n2 fAdd (gV 3) (nL fLen (psCons (gV 7) psNil))))) (gV 7))) (gV 7) [7]) psNil))))))))
def F_law_fitting : List M → Option Rr := ar 4 (defF 8 (some 1) g_law_fitting)
theorem ni_law_fitting (ms : List M) (o : Rr) (h : F_law_fitting ms = some o) : defF 8 (some 1) g_law_fitting ms = some o := ar_imp (fun _ _ h => h) ms o h

def g_law_step : G Fl :=
 (gThen (sSet 5 (gView (cM (.dat (.int 0)))))
 (gThen (sIf (gOf (tB' (n2 fNe (gV 1) (nLst pNil))))
 (sSet 5 (gView (n2 fIdx (n2 fIdx (gV 1) (n1 fNeg (cM (.dat (.int 1))))) (cM (.dat (.int 1))))))
 gSkip)
 (gThen (sSet 6 (gView (nL fLen (psCons (gV 1) psNil))))
 (gThen (sIf (gOf (tbAnd (tB' (n2 fNe (n2 fIdx (n2 fIdx (gV 0) (gV 5)) (cM (.dat (.int 0)))) (cM (.dat (.str (sc "")))))) (tB' (n2 fEq (n2 fIdx (gV 2) (gV 3)) (n2 fIdx (n2 fIdx (gV 0) (gV 5)) (cM (.dat (.int 0))))))))
 (gThen (sSet 7 (gView (nL fInt (psCons (n2 fEq (n2 fAdd (gV 3) (cM (.dat (.int 1)))) (nL fLen (psCons (gV 2) psNil))) psNil))))
 (sRet (gOf (nTup (pCons (gV 3) (pCons (n2 fSub (cM (.dat (.int 2))) (gV 7)) (pCons (n2 fIdx (nLst (pCons (cM (.dat (.str (sc "escape")))) (pCons (cM (.dat (.str (sc "cut")))) pNil))) (gV 7)) (pCons (gV 5) (pCons (gV 6) pNil)))))))))
 gSkip)
 (gThen (sIf (gOf (tB' (n2 fEq (gV 4) (cM (.dat (.str (sc "")))))))
 (sRet (gOf (nTup (pCons (gV 3) (pCons (cM (.dat (.int 1))) (pCons (cM (.dat (.str (sc "sign")))) (pCons (gV 5) (pCons (gV 6) pNil))))))))
 gSkip)
 (gThen (sIf (gOf (tbAnd (tB' (n2 fNe (gV 1) (nLst pNil))) (tB' (n2 fEq (gV 4) (n2 fIdx (n2 fIdx (gV 1) (n1 fNeg (cM (.dat (.int 1))))) (cM (.dat (.int 2))))))))
 (gThen (sDrop (gPop (vS 1)))
 (gThen (sSet 8 (gView (cM (.dat (.int 0)))))
 (gThen (sIf (gOf (tB' (n2 fNe (gV 1) (nLst pNil))))
 (sSet 8 (gView (n2 fIdx (n2 fIdx (gV 1) (n1 fNeg (cM (.dat (.int 1))))) (cM (.dat (.int 1))))))
 gSkip)
 (sRet (gOf (nTup (pCons (gV 3) (pCons (nL fLen (psCons (gV 4) psNil)) (pCons (cM (.dat (.str (sc "close")))) (pCons (gV 8) (pCons (n2 fSub (gV 6) (cM (.dat (.int 1)))) pNil)))))))))))
 gSkip)
 (gThen (sSet 9 (gView (n2 fIdx (gCompP (pItems (n2 fIdx (n2 fIdx (gV 0) (gV 5)) (cM (.dat (.int 1))))) (gTo 10) (tB' (n2 fEq (n2 fIdx (gV 10) (cM (.dat (.int 0)))) (gV 4))) (gV 10) [10]) (cM (.dat (.int 0))))))
 (gThen (gApp (vS 1) (nTup (pCons (gV 3) (pCons (n2 fIdx (gV 9) (cM (.dat (.int 1)))) (pCons (n2 fIdx (gV 9) (cM (.dat (.int 2)))) pNil)))))
 (sRet (gOf (nTup (pCons (gV 3) (pCons (nL fLen (psCons (gV 4) psNil)) (pCons (cM (.dat (.str (sc "open")))) (pCons (gV 5) (pCons (gV 6) pNil))))))))))))))))
def F_law_step : List M → Option Rr := ar 5 (defF 11 (some 1) g_law_step)
theorem ni_law_step (ms : List M) (o : Rr) (h : F_law_step ms = some o) : defF 11 (some 1) g_law_step ms = some o := ar_imp (fun _ _ h => h) ms o h

def g_law_steps : G Fl :=
 (gThen (sSetM 2 (gOf (nLst pNil)))
 (gThen (sSetM 3 (gOf (nLst pNil)))
 (gThen (sSet 4 (gView (cM (.dat (.int 0)))))
 (gThen (gWhile (gOf (tB' (n2 fLt (gV 4) (nL fLen (psCons (gV 1) psNil)))))
 (gThen (sSet 5 (xM (gCallS true 1 F_law_fitting (gNext (xE (gV 0)) (gHere 2 (xCons (xE (gV 1)) (xCons (xE (gV 4)) xNil)))))))
 (gThen (gAppS 3 (xM (gCallS true 1 F_law_step (gNext (xE (gV 0)) (gHere 2 (xCons (xE (gV 1)) (xCons (xE (gV 4)) (xCons (gView (nM1 fJoin (cM (.dat (.str (sc "")))) (nSl fSl (gV 5) oNo (oAt (cM (.dat (.int 1))))))) xNil))))))))
 (sSet 4 (gView (n2 fAdd (gV 4) (n2 fIdx (n2 fIdx (gV 3) (n1 fNeg (cM (.dat (.int 1))))) (cM (.dat (.int 1))))))))) 1000000)
 (sRet (xLst (xCons (gFrz 3) (xCons (gFrz 2) xNil))))))))
def F_law_steps : List M → Option Rr := ar 2 (defF 6 none g_law_steps)
theorem ni_law_steps (ms : List M) (o : Rr) (h : F_law_steps ms = some o) : defF 6 none g_law_steps ms = some o := ar_imp (fun _ _ h => h) ms o h
end Y
namespace Y
open PySem L2
abbrev bag (a b : Int) : M := .lst [.dat (.int a), .dat (.int b)]
@[simp] theorem sc_empty : sc "" = [] := by decide
theorem take_ok {a b n : Int} {Φ : M → Option M → Prop} (h0 : 0 < n) (h1 : n < 1073741824) (h : ∀ r a' b' : Int, 0 ≤ r → r < n → Φ (.dat (.int r)) (some (bag a' b'))) : TF F_law_take [bag a b, .dat (.int n)] Φ := by
  refine TF_B rfl ?_
  simp [g_law_take, start0, ixN]
  refine ⟨fun _ => ⟨h0, ⟨h0, h1⟩, h _ _ _ (Int.emod_nonneg _ (by omega)) (Int.emod_lt_of_pos _ h0)⟩, fun _ => ⟨.inr (by omega), h0, h _ _ _ (Int.emod_nonneg _ (by omega)) (Int.emod_lt_of_pos _ h0)⟩⟩
theorem bag_ok {ns : List Int} {k : Int} {Φ : M → Option M → Prop} (h0 : 0 ≤ k) (h1 : k < 1000) (h : ∀ a b : Int, Φ (bag a b) none) : TF F_law_bag [.dat (.scr ns), .dat (.int k)] Φ := by
  refine TF_B rfl ?_
  simp [g_law_bag, start0, ixN]
  refine ⟨fun hk => ?_, fun hk => ⟨.inr (by omega), h _ _⟩⟩
  rw [atI_pos h0]
  refine Tp_of (List.getElem?_eq_getElem (by omega)) ⟨.inr (by omega), fun _ => h _ _, fun _ => h _ _⟩
theorem pick {ds : List D} {r : Int} {Ψ : M → Prop} (h0 : 0 ≤ r) (h1 : r < ds.length) (h : ∀ d ∈ ds, Ψ (.dat d)) : Tp (fIdx (.dat (.lst ds)) (.dat (.int r))) Ψ := by
  rw [fIdx_lst, atI_pos h0]
  have hl : r.toNat < ds.length := by omega
  exact Tp_of (List.getElem?_eq_getElem hl) (h _ (List.getElem_mem hl))
theorem rngD_len {lo : Int} {n : Nat} : (rngD lo n).length = n := by simp [rngD]
theorem mark_ok {a b : Int} {s : List Nat} {Φ : M → Option M → Prop} (h0 : s ≠ []) (h1 : s.length ≤ 1000) (h : ∀ (m : List Nat) (a' b' : Int), m ≠ [] → m.length ≤ 4 → (∀ c ∈ m, c ∈ s) → Φ (.dat (.str m)) (some (bag a' b'))) : TF F_law_mark [bag a b, .dat (.str s)] Φ := by
  have hs : 0 < s.length := List.length_pos_iff.mpr h0
  refine TF_B rfl ?_
  simp [g_law_mark, start0, ixN]
  refine take_ok (by decide) (by decide) fun r1 a1 b1 p1 q1 => ?_
  simp
  refine take_ok (by decide) (by decide) fun r2 a2 b2 p2 q2 => ?_
  have key : ∀ v : Int, 0 ≤ v → v ≤ 3 → T (gForL (gTo 3) (sSet 2 (xM (x2 fAdd (xE (gV 2)) (xM (x2 fIdx (xE (gV 1)) (xM (gCallS true 0 F_law_take (gHere 0 (xCons (gView (nL fLen (psCons (gV 1) psNil))) xNil))))))))) (rngD 0 (1 + v).toNat))
      [some (bag a2 b2), some (.dat (.str s)), some (.dat (.str [])), none] fun f ρ' => match f with
        | .nx => Tp (getS ρ' 2) fun m => Tp (asDat m) fun d => Φ (M.dat d) (getS ρ' 0)
        | .bk => False
        | .ct => False
        | .rt m => Φ m (getS ρ' 0) := fun v hv hv3 => by
    refine T_forL (fun rest ρ => ∃ (a b : Int) (m : List Nat) (x : Option M), ρ = [some (bag a b), some (.dat (.str s)), some (.dat (.str m)), x] ∧ m.length + rest.length = (1 + v).toNat ∧ ∀ c ∈ m, c ∈ s) ?_ ?_ ⟨a2, b2, [], none, rfl, by simp [rngD_len], by simp⟩
    · rintro d rest ρ ⟨a3, b3, m, x, rfl, hm, hc⟩
      simp only [List.length_cons] at hm
      simp
      refine ⟨by omega, take_ok (by omega) (by omega) fun r a4 b4 p q => ?_⟩
      simp
      rw [atI_pos p]
      have hl : r.toNat < s.length := by omega
      refine ⟨by omega, Tp_of (List.getElem?_eq_getElem hl) ?_⟩
      refine ⟨by omega, _, _, _, ⟨⟨rfl, rfl⟩, rfl⟩, by simp; omega, fun c hc' => ?_⟩
      simp at hc'
      rcases hc' with z | z
      · exact hc c z
      · rw [z]; exact List.getElem_mem hl
    · rintro ρ ⟨a3, b3, m, x, rfl, hm, hc⟩
      simp at hm
      simp
      exact h m a3 b3 (by intro z; subst z; simp at hm; omega) (by omega) hc
  have hr : r2 = 0 ∨ r2 = 1 ∨ r2 = 2 ∨ r2 = 3 := by omega
  rcases hr with rfl | rfl | rfl | rfl <;> simp
  · exact key 0 (by decide) (by decide)
  · exact key 0 (by decide) (by decide)
  · exact key 1 (by decide) (by decide)
  · exact ⟨by omega, key r1 (by omega) (by omega)⟩
end Y
namespace Y
open PySem L2
abbrev Dr := List Nat × Int × List Nat
abbrev Row := List Nat × List Dr
abbrev Bk := List Row
def toDr (d : Dr) : D := .tup [.str d.1, .int d.2.1, .str d.2.2]
def toRow (r : Row) : D := .tup [.str r.1, .tup (r.2.map toDr)]
def toBk (b : Bk) : D := .tup (b.map toRow)
section
variable {Φ : Fl → Env → Prop}
theorem T_forM {α : Type} {f : α → D} {st : D → G Unit} {b : G Fl} {xs : List α} (inv : List α → Env → Prop) (turn : ∀ pre x suf ρ, xs = pre ++ x :: suf → inv pre ρ → T (st (f x)) ρ fun _ ρ1 => T b ρ1 fun fl ρ2 => match fl with
    | .nx => inv (pre ++ [x]) ρ2
    | .ct => inv (pre ++ [x]) ρ2
    | .bk => Φ .nx ρ2
    | .rt m => Φ (.rt m) ρ2) (done : ∀ ρ, inv xs ρ → Φ .nx ρ) {ρ : Env} (h : inv [] ρ) : T (gForL st b (xs.map f)) ρ Φ := by
  refine T_forL (fun rest ρ => ∃ pre suf, xs = pre ++ suf ∧ rest = suf.map f ∧ inv pre ρ) ?_ ?_ ⟨[], xs, rfl, rfl, h⟩
  · rintro d rest ρ ⟨pre, suf, e, er, hi⟩
    cases suf with
    | nil => cases er
    | cons x suf =>
      cases er
      refine T.mono (turn pre x suf ρ e hi) fun _ ρ1 q => T.mono q fun fl ρ2 z => ?_
      have e2 : xs = (pre ++ [x]) ++ suf := by rw [e]; simp
      cases fl with
      | nx => exact ⟨_, _, e2, rfl, z⟩
      | ct => exact ⟨_, _, e2, rfl, z⟩
      | bk => exact z
      | rt m => exact z
  · rintro ρ ⟨pre, suf, e, er, hi⟩
    cases suf with
    | nil => rw [List.append_nil] at e; rw [← e] at hi; exact done ρ hi
    | cons x suf => cases er
end
/-- a sign of a mark -/
def mkc (c : Nat) : Prop := (33 ≤ c ∧ c ≤ 126 ∧ c ≠ 37) ∨ c = 10
theorem mkc_lt {c : Nat} (h : mkc c) : c < 1114112 := by unfold mkc at h; omega
structure Sz (bk : Bk) : Prop where
  n : bk.length ≤ 6
  d : ∀ r ∈ bk, r.2.length ≤ 6
  r : ∀ r ∈ bk, ∀ d ∈ r.2, 0 ≤ d.2.1 ∧ d.2.1 < bk.length
  o : ∀ r ∈ bk, ∀ d ∈ r.2, d.1 ≠ [] ∧ d.1.length ≤ 4
  c : ∀ r ∈ bk, ∀ d ∈ r.2, d.2.2 ≠ [] ∧ d.2.2.length ≤ 4
  e : ∀ r ∈ bk, r.1.length ≤ 1
  k : ∀ r ∈ bk, ∀ d ∈ r.2, okE 2 (toDr d) = true
  ke : ∀ r ∈ bk, okE 1 (.str r.1) = true
  mo : ∀ r ∈ bk, ∀ d ∈ r.2, ∀ x ∈ d.1, mkc x
  mc : ∀ r ∈ bk, ∀ d ∈ r.2, ∀ x ∈ d.2.2, mkc x
  me : ∀ r ∈ bk, ∀ x ∈ r.1, 33 ≤ x ∧ x ≤ 126 ∧ x ≠ 37
structure RowOk (bk : Bk) (r : Row) : Prop where
  e : ∀ o ∈ bk, r.1 ≠ [] → ∀ d ∈ o.2, subS r.1 (d.1 ++ [32] ++ d.2.2) = false
  u : apart (r.2.map (·.1)).reverse = r.2.length
  p : ∀ d ∈ r.2, ∀ row, bk[d.2.1.toNat]? = some row → ∀ o ∈ row.2, d.2.2.isPrefixOf o.1 = false
def Fit (bk : Bk) : Prop := ∀ r ∈ bk, RowOk bk r
structure FI (bk pre : Bk) (ρ : Env) : Prop where
  env : ∃ x1 x2 x3 x4 x5 x6 x7, ρ = [some (.dat (.lst (bk.map toRow))), x1, x2, x3, x4, x5, x6, x7]
  q : ∀ r ∈ pre, RowOk bk r
structure FI2 (bk : Bk) (x : Row) (pre : Bk) (ρ : Env) : Prop where
  env : ∃ x3 x4 x5 x6 x7, ρ = [some (.dat (.lst (bk.map toRow))), some (.dat (.str x.1)), some (.dat (.tup (x.2.map toDr))), x3, x4, x5, x6, x7]
  q : ∀ o ∈ pre, x.1 ≠ [] → ∀ d ∈ o.2, subS x.1 (d.1 ++ [32] ++ d.2.2) = false
structure FI3 (bk : Bk) (x : Row) (pre : List Dr) (ρ : Env) : Prop where
  env : ∃ x3 x4 x5 x6 x7, ρ = [some (.dat (.lst (bk.map toRow))), some (.dat (.str x.1)), some (.dat (.tup (x.2.map toDr))), x3, x4, x5, x6, x7]
  q : ∀ d ∈ pre, ∀ row, bk[d.2.1.toNat]? = some row → ∀ o ∈ row.2, d.2.2.isPrefixOf o.1 = false
@[simp] theorem sc_blank : sc " " = [32] := by decide
theorem filter_none {α : Type} {p : α → Bool} {l : List α} (h : l.filter p = []) : ∀ x ∈ l, p x = false := fun x hx => by
  cases e : p x with
  | false => rfl
  | true => exact absurd (List.mem_filter.mpr ⟨hx, e⟩) (by rw [h]; simp)
theorem filter_tt {α : Type} : ∀ l : List α, l.filter (fun _ => true) = l
  | [] => rfl
  | x :: l => by simp [filter_tt l]
theorem gLcP_all {α : Type} {st : D → G Unit} {tt : Env → Option Bool} {ge : Env → Option M} {ρ : Env} {f : α → D} {h : α → D} {xs : List α} (hh : ∀ x ∈ xs, T (st (f x)) ρ fun _ ρ3 => Tp (tt ρ3) fun b => b = true ∧ Tp (ge ρ3) fun m => m = .dat (h x)) : gLcP st tt ge ρ (xs.map f) = some (xs.map h) := by
  have := gLcP_map (p := fun _ => true) (h := h) (xs := xs) fun x hx => T.mono (hh x hx) fun _ ρ3 q => Tp.mono q fun b ⟨e, w⟩ => ⟨e, fun _ => w⟩
  rw [filter_tt] at this
  exact this
theorem fits_ok {bk : Bk} (h : Sz bk) {Φ : M → Option M → Prop} (k : ∀ b : Bool, (b = true → Fit bk) → Φ (.dat (.bl b)) none) : TF F_law_fits_book [.dat (.lst (bk.map toRow))] Φ := by
  refine TF_B rfl ?_
  simp [g_law_fits_book, start0]
  refine T_forM (f := toRow) (FI bk) ?_ ?_ ⟨⟨_, _, _, _, _, _, _, rfl⟩, by simp⟩
  · rintro pre x suf ρ e ⟨⟨x1, x2, x3, x4, x5, x6, x7, rfl⟩, i1⟩
    have hx : x ∈ bk := by rw [e]; simp
    simp [toRow]
    refine T_forM (f := toRow) (FI2 bk x) ?_ ?_ ⟨⟨_, _, _, _, _, rfl⟩, by simp⟩
    · rintro pre2 o suf2 ρ e2 ⟨⟨x3, x4, x5, x6, x7, rfl⟩, i2⟩
      have ho : o ∈ bk := by rw [e2]; simp
      simp [toRow]
      refine Tp_of (gLcP_map (p := fun d => subS x.1 (d.1 ++ [32] ++ d.2.2)) (h := toDr) fun d hd => ?_) ?_
      · have := h.o o ho d hd
        have := h.c o ho d hd
        simp [toDr]
        omega
      · have hl : (o.2.filter fun d => subS x.1 (d.1 ++ [32] ++ d.2.2)).length ≤ 6 := Nat.le_trans (List.length_filter_le _ _) (h.d o ho)
        have fin : (x.1 ≠ [] → ∀ d ∈ o.2, subS x.1 (d.1 ++ [32] ++ d.2.2) = false) → ∀ o' ∈ pre2 ++ [o], x.1 ≠ [] → ∀ d ∈ o'.2, subS x.1 (d.1 ++ [32] ++ d.2.2) = false := fun q o' ho' => by
          rcases List.mem_append.mp ho' with z | z
          · exact i2 o' z
          · rw [List.mem_singleton.mp z]; exact q
        simp at hl
        simp
        refine ⟨by omega, fun hx1 => ⟨fun _ a b c hm _ e => ?_, fun _ => k false (by simp), fun e => ⟨⟨_, _, _, _, _, rfl⟩, fin fun _ => ?_⟩⟩, fun hx1 => ⟨⟨_, _, _, _, _, rfl⟩, fin fun z => absurd hx1 z⟩⟩
        · subst e
          exact okE_mono (by decide) (h.k o ho _ hm)
        · rw [peqs_nil] at e
          refine filter_none (by simpa using e)
    · rintro ρ ⟨⟨x3, x4, x5, x6, x7, rfl⟩, i2⟩
      simp
      refine Tp_of (gLcP_all (h := fun d => .str d.1) fun d hd => ?_) ?_
      · simp [toDr]
      · have hl := h.d x hx
        rw [fLenSet_strs (ss := x.2.map (·.1)) (by show dats _ = _; rw [dats_map, List.map_map]; rfl) (by simp; omega)]
        simp
        refine ⟨by omega, fun _ => k false (by simp), fun eu => ?_⟩
        refine T_forM (f := toDr) (FI3 bk x) ?_ ?_ ⟨⟨_, _, _, _, _, rfl⟩, by simp⟩
        · rintro pre2 d suf2 ρ e2 ⟨⟨x3, x4, x5, x6, x7, rfl⟩, i3⟩
          have hd : d ∈ x.2 := by rw [e2]; simp
          have hr := h.r x hx d hd
          have hn : d.2.1.toNat < bk.length := by omega
          have hrow : bk[d.2.1.toNat]? = some bk[d.2.1.toNat] := List.getElem?_eq_getElem hn
          have hrm : bk[d.2.1.toNat] ∈ bk := List.getElem_mem hn
          generalize bk[d.2.1.toNat] = row at hrow hrm
          simp [toDr]
          rw [atI_pos hr.1, List.getElem?_map, hrow]
          simp [toRow]
          refine Tp_of (gLcP_map (p := fun o => d.2.2.isPrefixOf o.1) (h := toDr) fun o ho => ?_) ?_
          · simp [toDr]
          · have hl2 : (row.2.filter fun o => d.2.2.isPrefixOf o.1).length ≤ 6 := Nat.le_trans (List.length_filter_le _ _) (h.d row hrm)
            refine ⟨by simp; omega, fun y hy => ?_, fun _ => k false (by simp), fun e => ⟨⟨_, _, _, _, _, rfl⟩, fun d' hd' row' hrow' o ho => ?_⟩⟩
            · obtain ⟨o, ho, rfl⟩ := List.mem_map.mp hy
              exact okE_mono (by decide) (h.k row hrm o (List.mem_filter.mp ho).1)
            · rcases List.mem_append.mp hd' with z | z
              · exact i3 d' z row' hrow' o ho
              · cases List.mem_singleton.mp z
                rw [hrow] at hrow'
                cases hrow'
                rw [peqs_nil] at e
                exact filter_none (p := fun o : Dr => d.2.2.isPrefixOf o.1) (by simpa using e) o ho
        · rintro ρ ⟨⟨x3, x4, x5, x6, x7, rfl⟩, i3⟩
          simp
          refine ⟨⟨_, _, _, _, _, _, _, rfl⟩, fun r hr => ?_⟩
          rcases List.mem_append.mp hr with z | z
          · exact i1 r z
          · rw [List.mem_singleton.mp z]
            exact ⟨i2, by exact_mod_cast eu, i3⟩
  · rintro ρ ⟨⟨x1, x2, x3, x4, x5, x6, x7, rfl⟩, i1⟩
    simp
    exact k true fun _ => i1
end Y
namespace Y
open PySem L2
@[simp] theorem Tp_views_set {ds : List D} {j : Nat} {d : D} {Ψ : List D → Prop} : Tp (views ((ds.map M.dat).set j (.dat d))) Ψ ↔ Ψ (ds.set j d) := by rw [← List.map_set, views_dat]; simp
@[simp] theorem Tp_dats_set {ds : List D} {j : Nat} {d : D} {Ψ : List D → Prop} : Tp (dats ((ds.map M.dat).set j (.dat d))) Ψ ↔ Ψ (ds.set j d) := by rw [← List.map_set, dats_map]; simp
theorem ixN_pos {n : Nat} {i : Int} (h0 : 0 ≤ i) (h1 : i < n) : ixN n i = some i.toNat := by unfold ixN; rw [if_pos h0, if_pos h1]
structure Sg (s : List Nat) : Prop where
  n : s ≠ []
  l : s.length ≤ 100
  c : ∀ x ∈ s, mkc x
structure Good (bk : Bk) : Prop where
  z : Sz bk
  f : Fit bk
  n : 0 < bk.length
structure EscOk (s : List Nat) : Prop where
  l : s.length ≤ 1
  c : ∀ x ∈ s, 33 ≤ x ∧ x ≤ 126 ∧ x ≠ 37
instance {c : Nat} : Decidable (mkc c) := by unfold mkc; infer_instance
structure BI (s e : List Nat) (n : Int) (ρ : Env) : Prop where
  env : ∃ a b x5 x6 x7 x8 x9, ∃ bk : Bk, ρ = [some (bag a b), some (.dat (.str s)), some (.dat (.str e)), some (.dat (.int n)), some (.dat (.lst (bk.map toRow))), x5, x6, x7, x8, x9] ∧ Good bk ∧ bk.length = n
structure BC (s e : List Nat) (n : Int) (ds acc : List D) (ρ : Env) : Prop where
  env : ∃ a b, ρ = [some (bag a b), some (.dat (.str s)), some (.dat (.str e)), some (.dat (.int n)), none, none, none, none, none, none]
  len : (acc.length + ds.length : Int) = n
  es : ∃ es : List (List Nat), acc = es.map (fun e => toRow (e, [])) ∧ ∀ e ∈ es, EscOk e
theorem good0 {es : List (List Nat)} (h : ∀ e ∈ es, EscOk e) (h0 : 0 < es.length) (h1 : es.length ≤ 6) : Good (es.map fun e => ((e, []) : Row)) := by
  have key : ∀ r ∈ es.map (fun e => ((e, []) : Row)), r.2 = [] ∧ EscOk r.1 := fun r hr => by
    obtain ⟨e, he, rfl⟩ := List.mem_map.mp hr
    exact ⟨rfl, h e he⟩
  refine ⟨⟨by simp; omega, fun r hr => by simp [(key r hr).1], fun r hr d hd => ?_, fun r hr d hd => ?_, fun r hr d hd => ?_, fun r hr => (key r hr).2.l, fun r hr d hd => ?_, fun r hr => by simp; exact fun x hx => by have := (key r hr).2.c x hx; omega, fun r hr d hd => ?_, fun r hr d hd => ?_, fun r hr => (key r hr).2.c⟩, fun r hr => ⟨fun o ho _ d hd => ?_, by rw [(key r hr).1]; rfl, fun d hd => ?_⟩, by simpa using h0⟩
  all_goals first | (rw [(key r hr).1] at hd; cases hd) | (rw [(key o ho).1] at hd; cases hd)
theorem pickI {ds : List D} {r : Int} {Ψ : D → Prop} (h0 : 0 ≤ r) (h1 : r < ds.length) (h : ∀ d ∈ ds, Ψ d) : Tp (atI ds r) Ψ := by
  rw [atI_pos h0]
  have hl : r.toNat < ds.length := by omega
  exact Tp_of (List.getElem?_eq_getElem hl) (h _ (List.getElem_mem hl))
theorem sg_all {d : D} (h : d ∈ [D.str (sc "ab"), D.str (sc "ab<>"), D.str (sc "abc\"{}*/-\n"), D.str (sc "\n#\"'({[<ab`")]) : ∃ s, d = .str s ∧ Sg s := by
  simp only [List.mem_cons, List.not_mem_nil, or_false] at h
  rcases h with rfl | rfl | rfl | rfl <;> exact ⟨_, rfl, by decide +kernel, by decide +kernel, by decide +kernel⟩
theorem esc_all {d : D} (h : d ∈ [D.str [], D.str (sc "\\"), D.str (sc "~"), D.str (sc "^")]) : ∃ s, d = .str s ∧ EscOk s := by
  simp only [List.mem_cons, List.not_mem_nil, or_false] at h
  rcases h with rfl | rfl | rfl | rfl <;> exact ⟨_, rfl, by decide +kernel, by decide +kernel⟩
theorem two_all {d : D} (h : d ∈ [D.int 2, D.int 4, D.int 6]) : ∃ n, d = .int n ∧ 2 ≤ n ∧ n ≤ 6 := by
  simp only [List.mem_cons, List.not_mem_nil, or_false] at h
  rcases h with rfl | rfl | rfl <;> exact ⟨_, rfl, by decide, by decide⟩
theorem sz_set {bk : Bk} {r : Row} {j : Nat} {d : Dr} (h : Sz bk) (h6 : r.2.length < 6) (hr : r ∈ bk) (hd : 0 ≤ d.2.1 ∧ d.2.1 < bk.length) (ho : d.1 ≠ [] ∧ d.1.length ≤ 4) (hc : d.2.2 ≠ [] ∧ d.2.2.length ≤ 4) (hk : okE 2 (toDr d) = true) (hmo : ∀ x ∈ d.1, mkc x) (hmc : ∀ x ∈ d.2.2, mkc x) : Sz (bk.set j (r.1, r.2 ++ [d])) := by
  have key : ∀ x ∈ bk.set j (r.1, r.2 ++ [d]), x ∈ bk ∨ x = (r.1, r.2 ++ [d]) := fun x hx => List.mem_or_eq_of_mem_set hx
  have kd : ∀ x ∈ bk.set j (r.1, r.2 ++ [d]), ∀ y ∈ x.2, (∃ z ∈ bk, y ∈ z.2) ∨ y = d := fun x hx y hy => by
    rcases key x hx with z | z
    · exact .inl ⟨x, z, hy⟩
    · subst z
      rcases List.mem_append.mp hy with w | w
      · exact .inl ⟨r, hr, w⟩
      · exact .inr (List.mem_singleton.mp w)
  refine ⟨by simpa using h.n, fun x hx => ?_, fun x hx y hy => ?_, fun x hx y hy => ?_, fun x hx y hy => ?_, fun x hx => ?_, fun x hx y hy => ?_, fun x hx => ?_, fun x hx y hy => ?_, fun x hx y hy => ?_, fun x hx => ?_⟩
  · rcases key x hx with z | z
    · exact h.d x z
    · subst z; simp; omega
  · rcases kd x hx y hy with ⟨z, hz, w⟩ | rfl
    · simpa using h.r z hz y w
    · simpa using hd
  · rcases kd x hx y hy with ⟨z, hz, w⟩ | rfl
    · exact h.o z hz y w
    · exact ho
  · rcases kd x hx y hy with ⟨z, hz, w⟩ | rfl
    · exact h.c z hz y w
    · exact hc
  · rcases key x hx with z | z
    · exact h.e x z
    · subst z; exact h.e r hr
  · rcases kd x hx y hy with ⟨z, hz, w⟩ | rfl
    · exact h.k z hz y w
    · exact hk
  · rcases key x hx with z | z
    · exact h.ke x z
    · subst z; exact h.ke r hr
  · rcases kd x hx y hy with ⟨z, hz, w⟩ | rfl
    · exact h.mo z hz y w
    · exact hmo
  · rcases kd x hx y hy with ⟨z, hz, w⟩ | rfl
    · exact h.mc z hz y w
    · exact hmc
  · rcases key x hx with z | z
    · exact h.me x z
    · subst z; exact h.me r hr
theorem book_ok {a b : Int} {Φ : M → Option M → Prop} (k : ∀ (bk : Bk) (a' b' : Int), Good bk → Φ (.dat (toBk bk)) (some (bag a' b'))) : TF F_law_book [bag a b] Φ := by
  refine TF_B rfl ?_
  simp [g_law_book, start0, ixN]
  refine take_ok (by decide) (by decide) fun r1 a1 b1 p1 q1 => ?_
  simp
  refine pickI p1 (by simpa using q1) fun d hd => ?_
  obtain ⟨sg, rfl, hsg⟩ := sg_all hd
  refine take_ok (by decide) (by decide) fun r2 a2 b2 p2 q2 => ?_
  simp
  refine pickI p2 (by simpa using q2) fun d hd => ?_
  obtain ⟨es, rfl, hes⟩ := esc_all hd
  refine take_ok (by decide) (by decide) fun r3 a3 b3 p3 q3 => ?_
  simp
  refine pickI p3 (by simpa using q3) fun d hd => ?_
  obtain ⟨n0, rfl, hn0⟩ := two_all hd
  refine take_ok (by omega) (by omega) fun r4 a4 b4 p4 q4 => ?_
  simp
  refine ⟨by omega, T_gLc (BC sg es (1 + r4)) ?_ ?_ ⟨⟨_, _, rfl⟩, by simp [rngD_len]; omega, [], rfl, by simp⟩⟩
  · rintro d ds acc ρ ⟨⟨a5, b5, rfl⟩, hl, e5, rfl, he5⟩
    simp
    refine take_ok (by decide) (by decide) fun r6 a6 b6 p6 q6 => ?_
    simp
    refine pickI p6 (by simpa using q6) fun d hd => ?_
    have : ∃ s, d = .str s ∧ EscOk s := by
      simp only [List.mem_cons, List.not_mem_nil, or_false] at hd
      rcases hd with rfl | rfl | rfl
      · exact ⟨_, rfl, hes⟩
      · exact ⟨_, rfl, by decide +kernel, by decide +kernel⟩
      · exact ⟨_, rfl, by decide +kernel, by decide +kernel⟩
    obtain ⟨e6, rfl, he6⟩ := this
    simp at hl
    refine ⟨⟨_, _, rfl⟩, by simp; omega, e5 ++ [e6], by simp [toRow], fun e he => ?_⟩
    rcases List.mem_append.mp he with z | z
    · exact he5 e z
    · rw [List.mem_singleton.mp z]; exact he6
  · rintro acc ρ ⟨⟨a5, b5, rfl⟩, hl, e5, rfl, he5⟩
    simp at hl
    simp
    refine ⟨by omega, take_ok (by omega) (by omega) fun r7 a7 b7 p7 q7 => ?_⟩
    simp
    refine ⟨by omega, T_forL (fun _ => BI sg es (1 + r4)) ?_ ?_ ⟨a7, b7, none, none, none, none, none, e5.map fun e => (e, []), by simp, good0 he5 (by omega) (by omega), by simp; omega⟩⟩
    · rintro d rest ρ ⟨a8, b8, x5, x6, x7, x8, x9, bk, rfl, hg, hl⟩
      simp
      refine take_ok (by omega) (by omega) fun r9 a9 b9 p9 q9 => ?_
      simp
      refine take_ok (by decide) (by decide) fun r10 a10 b10 p10 q10 => ?_
      simp
      refine pickI p10 (by simpa using q10) fun d1 hd1 => ?_
      have : ∃ at_ : Int, d1 = .int at_ ∧ 0 ≤ at_ ∧ at_ < 1 + r4 := by
        simp only [List.mem_cons, List.not_mem_nil, or_false] at hd1
        rcases hd1 with rfl | rfl
        · exact ⟨0, rfl, by decide, by omega⟩
        · exact ⟨_, rfl, p9, q9⟩
      obtain ⟨at_, rfl, hat0, hat1⟩ := this
      refine mark_ok hsg.n (by have := hsg.l; omega) fun m1 a11 b11 hm1 hl1 hc1 => ?_
      simp
      refine take_ok (by omega) (by omega) fun to a12 b12 hto0 hto1 => ?_
      simp
      refine mark_ok hsg.n (by have := hsg.l; omega) fun m2 a13 b13 hm2 hl2 hc2 => ?_
      have hj : at_.toNat < bk.length := by omega
      have hrow : bk[at_.toNat]? = some bk[at_.toNat] := List.getElem?_eq_getElem hj
      have hrm : bk[at_.toNat] ∈ bk := List.getElem_mem hj
      generalize bk[at_.toNat] = row at hrow hrm
      simp [atI_pos hat0, hrow, toRow, ixN_pos hat0 (show at_ < (bk.length : Int) by omega)]
      have hd10 := hg.z.d row hrm
      refine ⟨by omega, fun h6 => ?_, fun h6 => ⟨_, _, _, _, _, _, _, bk, rfl, hg, hl⟩⟩
      have e : (List.map (M.dat ∘ toRow) bk).set at_.toNat (M.dat (D.tup [D.str row.1, D.tup (List.map toDr row.2 ++ [D.tup [D.str m1, D.int to, D.str m2]])])) = ((bk.set at_.toNat (row.1, row.2 ++ [(m1, to, m2)])).map toRow).map M.dat := by
        rw [List.map_map, List.map_set]
        simp [toRow, toDr]
      rw [e, views_dat]
      have hz := sz_set (r := row) hg.z (by omega) hrm (j := at_.toNat) (d := (m1, to, m2)) ⟨hto0, by show to < (bk.length : Int); omega⟩ ⟨hm1, hl1⟩ ⟨hm2, hl2⟩ (by
        simp [toDr]
        exact ⟨fun x hx => mkc_lt (hsg.c x (hc1 x hx)), fun x hx => mkc_lt (hsg.c x (hc2 x hx))⟩) (fun x hx => hsg.c x (hc1 x hx)) (fun x hx => hsg.c x (hc2 x hx))
      have hlen : (bk.set at_.toNat (row.1, row.2 ++ [(m1, to, m2)])).length = bk.length := List.length_set
      generalize bk.set at_.toNat (row.1, row.2 ++ [(m1, to, m2)]) = bk2 at hz hlen
      simp only [Tp_some]
      refine fits_ok hz fun b hb => ?_
      simp
      exact ⟨fun e => ⟨_, _, _, _, _, _, _, bk2, rfl, ⟨hz, hb e, by have := hg.n; omega⟩, by omega⟩, fun _ => ⟨_, _, _, _, _, _, _, bk, rfl, hg, hl⟩⟩
    · rintro ρ ⟨a8, b8, x5, x6, x7, x8, x9, bk, rfl, hg, hl⟩
      simp
      exact k bk a8 b8 hg
end Y
namespace Y
open PySem L2
@[simp] theorem Tp_dats_comp {α : Type} {f : α → D} {l : List α} {Ψ : List D → Prop} : Tp (dats (l.map (M.dat ∘ f))) Ψ ↔ Ψ (l.map f) := by rw [← List.map_map, dats_map]; simp
@[simp] theorem Tp_views_comp {α : Type} {f : α → D} {l : List α} {Ψ : List D → Prop} : Tp (views (l.map (M.dat ∘ f))) Ψ ↔ Ψ (l.map f) := by rw [← List.map_map, views_dat]; simp
@[simp] theorem Tp_dats_lam {α : Type} {f : α → D} {l : List α} {Ψ : List D → Prop} : Tp (dats (l.map fun x => M.dat (f x))) Ψ ↔ Ψ (l.map f) := Tp_dats_comp
@[simp] theorem Tp_views_lam {α : Type} {f : α → D} {l : List α} {Ψ : List D → Prop} : Tp (views (l.map fun x => M.dat (f x))) Ψ ↔ Ψ (l.map f) := Tp_views_comp
structure Mk1 (s : List Nat) : Prop where
  n : s ≠ []
  l : s.length ≤ 4
  c : ∀ x ∈ s, x < 1114112
abbrev txs (ss : List (List Nat)) : List M := ss.map (M.dat ∘ D.str)
theorem txs_app {ss tt : List (List Nat)} : txs (ss ++ tt) = ss.map (M.dat ∘ D.str) ++ tt.map (M.dat ∘ D.str) := List.map_append
structure MI (bk : Bk) (n : Nat) (ρ : Env) : Prop where
  env : ∃ x2 x3 x4, ∃ ss : List (List Nat), ρ = [some (.dat (toBk bk)), some (.lst (txs ss)), x2, x3, x4] ∧ (∀ s ∈ ss, Mk1 s) ∧ ss.length ≤ n
structure MI2 (bk : Bk) (x : Row) (n : Nat) (ρ : Env) : Prop where
  env : ∃ x4, ∃ ss : List (List Nat), ρ = [some (.dat (toBk bk)), some (.lst (txs ss)), some (.dat (.str x.1)), some (.dat (.tup (x.2.map toDr))), x4] ∧ (∀ s ∈ ss, Mk1 s) ∧ ss.length ≤ n
theorem marks_ok {bk : Bk} (hg : Sz bk) {Φ : M → Option M → Prop} (k : ∀ ss : List (List Nat), (∀ s ∈ ss, Mk1 s) → ss.length ≤ 1000 → Φ (.lst (txs ss)) none) : TF F_law_marks [.dat (toBk bk)] Φ := by
  refine TF_B rfl ?_
  simp [g_law_marks, start0, toBk]
  refine T_forM (f := toRow) (fun pre => MI bk (21 * pre.length)) ?_ ?_ ⟨_, _, _, [], rfl, by simp, by simp⟩
  · rintro pre x suf ρ e ⟨x2, x3, x4, ss, rfl, hs, hl⟩
    have hx : x ∈ bk := by rw [e]; simp
    have hn : pre.length ≤ 10 := by have := hg.n; rw [e] at this; simp at this; omega
    simp [toRow]
    refine T_forM (f := toDr) (fun pre2 => MI2 bk x (21 * pre.length + 2 * pre2.length)) ?_ ?_ ⟨_, ss, rfl, hs, by simp; omega⟩
    · rintro pre2 d suf2 ρ e2 ⟨x4, ss, rfl, hs, hl⟩
      have hd : d ∈ x.2 := by rw [e2]; simp
      have hn2 : pre2.length ≤ 10 := by have := hg.d x hx; rw [e2] at this; simp at this; omega
      have ho := hg.o x hx d hd
      have hc := hg.c x hx d hd
      have hk := hg.k x hx d hd
      simp [toDr] at hk
      simp [toDr]
      refine ⟨by omega, _, ss ++ [d.1, d.2.2], by rw [txs, List.map_append]; rfl, fun s hs' => ?_, by simp; omega⟩
      rcases List.mem_append.mp hs' with z | z
      · exact hs s z
      · simp only [List.mem_cons, List.not_mem_nil, or_false] at z
        rcases z with rfl | rfl
        · exact ⟨ho.1, ho.2, hk.1⟩
        · exact ⟨hc.1, hc.2, hk.2⟩
    · rintro ρ ⟨x4, ss, rfl, hs, hl⟩
      have h10 := hg.d x hx
      have h1 := hg.e x hx
      have h2 := hg.ke x hx
      simp at h2
      simp
      refine ⟨fun hx1 => ⟨by omega, _, _, _, ss ++ [x.1], by rw [txs_app]; rfl, fun s hs' => ?_, by simp; omega⟩, fun hx1 => ⟨_, _, _, ss, rfl, hs, by omega⟩⟩
      rcases List.mem_append.mp hs' with z | z
      · exact hs s z
      · rw [List.mem_singleton.mp z]; exact ⟨hx1, by omega, h2⟩
  · rintro ρ ⟨x2, x3, x4, ss, rfl, hs, hl⟩
    simp
    exact k ss hs (by have := hg.n; omega)
structure TxI (ss : List (List Nat)) (bk : D) (n : Int) (k : Nat) (rest : List D) (ρ : Env) : Prop where
  env : ∃ a b x5 x6, ∃ t : List Nat, ρ = [some (bag a b), some (.dat bk), some (.dat (.int n)), some (.dat (.lst (ss.map D.str))), some (.dat (.str t)), x5, x6] ∧ (∀ c ∈ t, c < 1114112) ∧ t.length + 4 * rest.length ≤ k
theorem text_ok' {bk : Bk} {n : Int} {a b : Int} (hg : Sz bk) (h0 : 0 < n) (h1 : n ≤ 3000) {Φ : M → Option M → Prop} (k : ∀ (t : List Nat) (a' b' : Int), t.length + 4 ≤ 4 * n.toNat → (∀ c ∈ t, c < 1114112) → Φ (.dat (.str t)) (some (bag a' b'))) : TF F_law_text [bag a b, .dat (toBk bk), .dat (.int n)] Φ := by
  refine TF_B rfl ?_
  simp [g_law_text, start0]
  refine marks_ok hg fun ss hs hl => ?_
  simp
  refine ⟨by omega, ?_⟩
  have e : (List.map D.str ss ++ [D.str (sc "x"), D.str [32], D.str (sc "a"), D.str (sc "b"), D.str (sc "\n")]) = (ss ++ [sc "x", [32], sc "a", sc "b", sc "\n"]).map D.str := by rw [List.map_append]; rfl
  have hs2 : ∀ s ∈ ss ++ [sc "x", [32], sc "a", sc "b", sc "\n"], Mk1 s := fun s h => by
    rcases List.mem_append.mp h with z | z
    · exact hs s z
    · simp only [List.mem_cons, List.not_mem_nil, or_false] at z
      rcases z with rfl | rfl | rfl | rfl | rfl <;> exact ⟨by decide +kernel, by decide +kernel, by decide +kernel⟩
  have hl2 : (ss ++ [sc "x", [32], sc "a", sc "b", sc "\n"]).length = ss.length + 5 := by rw [List.length_append]; rfl
  rw [e]
  generalize ss ++ [sc "x", [32], sc "a", sc "b", sc "\n"] = sm at hs2 hl2
  refine take_ok h0 (by omega) fun r1 a1 b1 p1 q1 => ?_
  simp
  refine ⟨by omega, T_forL (TxI sm (toBk bk) n (4 * n.toNat - 4)) ?_ ?_ ⟨_, _, _, _, [], rfl, by simp, by simp [rngD_len]; omega⟩⟩
  · rintro d rest ρ ⟨a2, b2, x5, x6, t, rfl, ht, hlen⟩
    simp only [List.length_cons] at hlen
    simp
    refine take_ok (by omega) (by omega) fun r3 a3 b3 p3 q3 => ?_
    simp [atI_pos p3]
    have hj : r3.toNat < sm.length := by omega
    have hm := hs2 _ (List.getElem_mem hj)
    rw [List.getElem?_eq_getElem hj]
    generalize sm[r3.toNat] = one at hm
    have hm0 : 0 < one.length := List.length_pos_iff.mpr hm.n
    have hm1 := hm.l
    simp
    refine take_ok (by decide) (by decide) fun r4 a4 b4 p4 q4 => ?_
    have fin : ∀ (o : List Nat) (a b : Int), (∀ c ∈ o, c ∈ one) → o.length ≤ 4 → t.length + o.length ≤ 16000000 ∧ TxI sm (toBk bk) n (4 * n.toNat - 4) rest [some (bag a b), some (.dat (toBk bk)), some (.dat (.int n)), some (.dat (.lst (sm.map D.str))), some (.dat (.str (t ++ o))), some (.dat d), some (.dat (.str o))] := fun o a b ho hlo =>
      ⟨by omega, _, _, _, _, t ++ o, rfl, fun c hc => by
        rcases List.mem_append.mp hc with z | z
        · exact ht c z
        · exact hm.c c (ho c z), by rw [List.length_append]; omega⟩
    simp
    refine ⟨fun h4 => ⟨by omega, take_ok (by omega) (by omega) fun r5 a5 b5 p5 q5 => ?_⟩, fun _ => fin one a4 b4 (fun c h => h) hm1⟩
    simp
    rw [cutD_hi (by omega)]
    exact ⟨by omega, fin _ a5 b5 (fun c h => List.mem_of_mem_take h) (by rw [List.length_take]; omega)⟩
  · rintro ρ ⟨a2, b2, x5, x6, t, rfl, ht, hlen⟩
    simp at hlen
    simp
    exact k t a2 b2 (by omega) ht
theorem text_ok {bk : Bk} {n : Int} {a b : Int} (hg : Sz bk) (h0 : 0 < n) (h1 : n ≤ 3000) {Φ : M → Option M → Prop} (k : ∀ (t : List Nat) (a' b' : Int), t.length ≤ 30000 → (∀ c ∈ t, c < 1114112) → Φ (.dat (.str t)) (some (bag a' b'))) : TF F_law_text [bag a b, .dat (toBk bk), .dat (.int n)] Φ :=
  text_ok' hg h0 h1 fun t a' b' hl hc => k t a' b' (by omega) hc
end Y
namespace Y
open PySem L2
/-- an open door: where it was opened, where it leads, what shuts it -/
abbrev D3 := Nat × Int × List Nat
def toD3 (d : D3) : D := .tup [.int d.1, .int d.2.1, .str d.2.2]
def tg (ds : List D3) : Int := match ds.getLast? with
  | none => 0
  | some d => d.2.1
def cl? (ds : List D3) : Option (List Nat) := ds.getLast?.map (·.2.2)
def rowAt (bk : Bk) (i : Int) : Row := (bk[i.toNat]?).getD ([], [])
def cands (bk : Bk) (ds : List D3) : List (List Nat) := (rowAt bk (tg ds)).2.map (·.1) ++ (cl? ds).toList
def fitL (bk : Bk) (ds : List D3) (t : List Nat) (p : Nat) : List (List Nat) := (cands bk ds).filter fun m => m.isPrefixOf (t.drop p)
def best (l : List (List Nat)) : List Nat := (l.mergeSort (leLen false)).reverse.headD []
def tupS (p many : Nat) (w : List Nat) (to dep : Int) : D := .tup [.int p, .int many, .str w, .int to, .int dep]
def doorOf (bk : Bk) (to : Int) (m : List Nat) : Dr := ((rowAt bk to).2.filter fun d => d.1 == m).headD ([], 0, [])
def stepS (bk : Bk) (ds : List D3) (t : List Nat) (p : Nat) : (D × Nat) × List D3 :=
  if (rowAt bk (tg ds)).1 ≠ [] ∧ t[p]?.toList = (rowAt bk (tg ds)).1 then
    if p + 1 = t.length then ((tupS p 1 (sc "cut") (tg ds) ds.length, 1), ds) else ((tupS p 2 (sc "escape") (tg ds) ds.length, 2), ds)
  else if best (fitL bk ds t p) = [] then ((tupS p 1 (sc "sign") (tg ds) ds.length, 1), ds)
  else if cl? ds = some (best (fitL bk ds t p)) then ((tupS p (best (fitL bk ds t p)).length (sc "close") (tg ds.dropLast) (ds.length - 1), (best (fitL bk ds t p)).length), ds.dropLast)
  else ((tupS p (best (fitL bk ds t p)).length (sc "open") (tg ds) ds.length, (best (fitL bk ds t p)).length), ds ++ [(p, (doorOf bk (tg ds) (best (fitL bk ds t p))).2)])
structure DOk (bk : Bk) (ds : List D3) (n : Nat) : Prop where
  r : ∀ d ∈ ds, 0 ≤ d.2.1 ∧ d.2.1 < bk.length
  c : ∀ d ∈ ds, Mk1 d.2.2
  n : ds.length ≤ n
structure TOk (t : List Nat) : Prop where
  l : t.length ≤ 90000
  c : ∀ x ∈ t, x < 1114112
abbrev dls (ds : List D3) : M := .lst (ds.map (M.dat ∘ toD3))
theorem tg_in {bk : Bk} {ds : List D3} {n : Nat} (hg : Good bk) (h : DOk bk ds n) : 0 ≤ tg ds ∧ tg ds < bk.length := by
  unfold tg
  cases e : ds.getLast? with
  | none => exact ⟨Int.le_refl _, by have := hg.n; show (0 : Int) < _; omega⟩
  | some d => exact h.r d (List.mem_of_getLast? e)
theorem row_in {bk : Bk} {i : Int} (h0 : 0 ≤ i) (h1 : i < bk.length) : bk[i.toNat]? = some (rowAt bk i) ∧ rowAt bk i ∈ bk := by
  have hl : i.toNat < bk.length := by omega
  have e : bk[i.toNat]? = some bk[i.toNat] := List.getElem?_eq_getElem hl
  unfold rowAt
  rw [e]
  exact ⟨rfl, List.getElem_mem hl⟩
theorem cand_ok {bk : Bk} {ds : List D3} {n : Nat} (hg : Good bk) (h : DOk bk ds n) : (∀ m ∈ cands bk ds, Mk1 m) ∧ (cands bk ds).length ≤ 11 := by
  have hi := tg_in hg h
  have hr := (row_in hi.1 hi.2).2
  constructor
  · intro m hm
    rcases List.mem_append.mp hm with z | z
    · obtain ⟨d, hd, rfl⟩ := List.mem_map.mp z
      have hk := hg.z.k _ hr d hd
      simp [toDr] at hk
      exact ⟨(hg.z.o _ hr d hd).1, (hg.z.o _ hr d hd).2, hk.1⟩
    · unfold cl? at z
      cases e : ds.getLast? with
      | none => rw [e] at z; simp at z
      | some d =>
        rw [e] at z
        simp at z
        rw [z]
        exact h.c d (List.mem_of_getLast? e)
  · have := hg.z.d _ hr
    unfold cands
    rw [List.length_append, List.length_map]
    cases cl? ds <;> simp <;> omega
theorem okD3 {bk : Bk} {ds : List D3} {n : Nat} (h : DOk bk ds n) : ∀ d ∈ ds, okE 2 (toD3 d) = true := fun d hd => by
  have := (h.c d hd).c
  simp [toD3]
  exact this
theorem getS_set_ne {x : Option M} : ∀ {ρ : Env} {i j : Nat}, i ≠ j → getS (ρ.set i x) j = getS ρ j
  | [], _, _, _ => rfl
  | _ :: _, 0, 0, h => absurd rfl h
  | _ :: _, 0, _ + 1, _ => rfl
  | _ :: _, _ + 1, 0, _ => rfl
  | _ :: ρ, i + 1, j + 1, h => getS_set_ne (ρ := ρ) (i := i) (j := j) fun e => h (by rw [e])
theorem getS_set_eq {x : Option M} : ∀ {ρ : Env} {i : Nat}, i < ρ.length → getS (ρ.set i x) i = x
  | [], _, h => by simp at h
  | _ :: _, 0, _ => rfl
  | _ :: ρ, i + 1, h => getS_set_eq (ρ := ρ) (i := i) (by simpa using h)
theorem tg_nil : tg [] = 0 := rfl
theorem tg_app {ds : List D3} {d : D3} : tg (ds ++ [d]) = d.2.1 := by simp [tg]
theorem cl_nil : cl? [] = none := rfl
theorem cl_app {ds : List D3} {d : D3} : cl? (ds ++ [d]) = some d.2.2 := by simp [cl?]
theorem peqs_app {xs : List D} {d : D} : peqs (xs ++ [d]) [] = false := by rw [peqs_nil]; simp
/-- tongue = 0; if doors != []: tongue = doors[-1][1] -/
theorem tongue_of {bk : Bk} {ds : List D3} {n : Nat} (hd : DOk bk ds n) {ρ : Env} {i : Nat} {k : G Fl} {Φ : Fl → Env → Prop} (h1 : getS ρ 1 = some (dls ds)) (hi : i ≠ 1) (hk : T k (ρ.set i (some (.dat (.int (tg ds))))) Φ) :
    T (gThen (sSet i (gView (cM (.dat (.int 0))))) (gThen (sIf (gOf (tB' (n2 fNe (gV 1) (nLst pNil)))) (sSet i (gView (n2 fIdx (n2 fIdx (gV 1) (n1 fNeg (cM (.dat (.int 1))))) (cM (.dat (.int 1)))))) gSkip) k)) ρ Φ := by
  have ho := okD3 hd
  simp [getS_set_ne hi, h1]
  refine ⟨fun x a b c hm e => by subst e; exact okE_mono (by decide) (ho _ hm), fun e => ?_, fun e => ?_⟩
  · rw [peqs_nil] at e
    rcases List.eq_nil_or_concat ds with rfl | ⟨init, d, rfl⟩
    · simp at e
    · rw [List.concat_eq_append] at hk ⊢
      rw [tg_app] at hk
      simp [toD3]
      exact hk
  · rw [peqs_nil] at e
    have : ds = [] := by simpa using e
    subst this
    exact hk
theorem cut_last {ds : List D3} : cutD (ds.map toD3) (some (-1)) none = (ds.getLast?.toList).map toD3 := by
  rw [cutD_neg1]
  rcases List.eq_nil_or_concat ds with rfl | ⟨init, d, rfl⟩
  · simp
  · simp
theorem pre_take {m l : List Nat} : (l.take m.length == m) = m.isPrefixOf l := (isPrefixOf_take m l).symm
theorem all_str (ss : List (List Nat)) : litems (.lst ((ss.map D.str).map M.dat)) = some (ss.map D.str) := dats_map _
theorem fitting_ok {bk : Bk} {ds : List D3} {t : List Nat} {p n : Nat} (hg : Good bk) (hd : DOk bk ds n) (ht : TOk t) {Φ : M → Option M → Prop} (k : Φ (.lst (txs ((fitL bk ds t p).mergeSort (leLen false)).reverse)) (some (dls ds))) : TF F_law_fitting [.dat (toBk bk), dls ds, .dat (.str t), .dat (.int p)] Φ := by
  have hi := tg_in hg hd
  obtain ⟨hrow, hrm⟩ := row_in hi.1 hi.2
  have hc := cand_ok hg hd
  have ho := okD3 hd
  have hl10 := hg.z.d _ hrm
  have htl := ht.l
  refine TF_B rfl ?_
  refine tongue_of (i := 4) hd rfl (by decide) ?_
  simp [start0, toBk, atI_pos hi.1, hrow, toRow]
  refine Tp_of (gLcP_all (h := fun d => .str d.1) fun d hd => by simp [toDr]) ⟨by simp; omega, ?_⟩
  rw [cut_last]
  refine Tp_of (gLcP_all (h := fun d => .str d.2.2) fun d hd => by simp [toD3]) ?_
  have hlast : ds.getLast?.toList.length ≤ 1 := by cases ds.getLast? <;> simp
  refine ⟨by simp; omega, by simp; omega, ?_⟩
  have e : ((rowAt bk (tg ds)).2.map fun d => D.str d.1) ++ (ds.getLast?.toList.map fun d => D.str d.2.2) = (cands bk ds).map D.str := by
    unfold cands cl?
    rw [List.map_append, List.map_map]
    cases ds.getLast? <;> rfl
  rw [e]
  refine Tp_of (gLcP_map (p := fun m => m.isPrefixOf (t.drop p)) (h := D.str) fun m hm => ?_) ?_
  · have hm10 := (hc.1 m hm).l
    simp
    rw [cutD_lohi (by omega) (by omega), show ((p : Int) + m.length).toNat - (p : Int).toNat = m.length by omega, Int.toNat_natCast]
    exact ⟨by omega, by omega, pre_take⟩
  · have hf : ∀ m ∈ fitL bk ds t p, m ∈ cands bk ds := fun m hm => (List.mem_filter.mp hm).1
    have hfl : (fitL bk ds t p).length ≤ 11 := Nat.le_trans (List.length_filter_le _ _) hc.2
    show ((fitL bk ds t p).map D.str).length ≤ 100000 ∧ _
    refine ⟨by simp; omega, ?_⟩
    rw [show List.filter (fun m => m.isPrefixOf (List.drop p t)) (cands bk ds) = fitL bk ds t p from rfl, fSort_strs (all_str _) (by omega) fun s hs => by have := (hc.1 s (hf s hs)).l; omega]
    simp
    rw [← List.map_reverse]
    exact k
theorem le_tr {rev : Bool} (a b c : List Nat) (h1 : leLen rev a b = true) (h2 : leLen rev b c = true) : leLen rev a c = true := by
  unfold leLen at *
  cases rev <;> simp at * <;> omega
theorem le_tot {rev : Bool} (a b : List Nat) : (leLen rev a b || leLen rev b a) = true := by
  unfold leLen
  cases rev <;> simp <;> omega
theorem best_nil : best [] = [] := by simp [best]
theorem best_mem {l : List (List Nat)} (h : l ≠ []) : best l ∈ l ∧ ∀ x ∈ l, x.length ≤ (best l).length := by
  have hs := List.pairwise_mergeSort (le := leLen false) le_tr le_tot l
  have hm : ∀ x, x ∈ l.mergeSort (leLen false) ↔ x ∈ l := fun x => List.mem_mergeSort
  unfold best
  rcases List.eq_nil_or_concat (l.mergeSort (leLen false)) with e | ⟨init, d, e⟩
  · cases l with
    | nil => exact absurd rfl h
    | cons x l => exact absurd ((hm x).mpr List.mem_cons_self) (by rw [e]; simp)
  · rw [List.concat_eq_append] at e
    rw [e] at hs hm ⊢
    simp only [List.reverse_append, List.reverse_cons, List.reverse_nil, List.nil_append, List.singleton_append, List.headD_cons]
    refine ⟨(hm d).mp (by simp), fun x hx => ?_⟩
    have := (hm x).mpr hx
    rcases List.mem_append.mp this with z | z
    · have := (List.pairwise_append.mp hs).2.2 x z d (by simp)
      simpa [leLen] using this
    · rw [List.mem_singleton.mp z]; exact Nat.le_refl _
theorem bestR_mem {l : List (List Nat)} (h : l ≠ []) : ∃ r, l.mergeSort (leLen true) = r ∧ ∃ m rest, r = m :: rest ∧ m ∈ l ∧ ∀ x ∈ l, x.length ≤ m.length := by
  have hs := List.pairwise_mergeSort (le := leLen true) le_tr le_tot l
  have hm : ∀ x, x ∈ l.mergeSort (leLen true) ↔ x ∈ l := fun x => List.mem_mergeSort
  cases e : l.mergeSort (leLen true) with
  | nil =>
    cases l with
    | nil => exact absurd rfl h
    | cons x l => exact absurd ((hm x).mpr List.mem_cons_self) (by rw [e]; simp)
  | cons m rest =>
    rw [e] at hs hm
    refine ⟨_, rfl, m, rest, rfl, (hm m).mp List.mem_cons_self, fun x hx => ?_⟩
    rcases List.mem_cons.mp ((hm x).mpr hx) with z | z
    · rw [z]; exact Nat.le_refl _
    · simpa [leLen] using (List.pairwise_cons.mp hs).1 x z
theorem pre_eq {a b l : List Nat} (h1 : a.isPrefixOf l = true) (h2 : b.isPrefixOf l = true) (h : a.length = b.length) : a = b := by
  rw [← pre_take, beq_iff_eq] at h1 h2
  rw [← h1, ← h2, h]
theorem fit_pre {bk : Bk} {ds : List D3} {t : List Nat} {p : Nat} : ∀ m ∈ fitL bk ds t p, m.isPrefixOf (t.drop p) = true := fun m hm => (List.mem_filter.mp hm).2
theorem bestR_eq {bk : Bk} {ds : List D3} {t : List Nat} {p : Nat} (h : fitL bk ds t p ≠ []) : ∃ rest, (fitL bk ds t p).mergeSort (leLen true) = best (fitL bk ds t p) :: rest := by
  obtain ⟨r, e, m, rest, rfl, hm, hx⟩ := bestR_mem h
  obtain ⟨b1, b2⟩ := best_mem h
  have : m = best (fitL bk ds t p) := pre_eq (fit_pre _ hm) (fit_pre _ b1) (Nat.le_antisymm (b2 m hm) (hx _ b1))
  exact ⟨rest, by rw [e, this]⟩
theorem best_iff {bk : Bk} {ds : List D3} {n : Nat} (hg : Good bk) (hd : DOk bk ds n) {t : List Nat} {p : Nat} : best (fitL bk ds t p) = [] ↔ fitL bk ds t p = [] := by
  constructor
  · intro h
    by_cases e : fitL bk ds t p = []
    · exact e
    · have := (best_mem e).1
      rw [h] at this
      exact absurd rfl ((cand_ok hg hd).1 _ (List.mem_filter.mp this).1).n
  · intro h
    rw [h, best_nil]
end Y
namespace Y
open PySem L2
theorem best_pre {bk : Bk} {ds : List D3} {t : List Nat} {p : Nat} : (best (fitL bk ds t p)).isPrefixOf (t.drop p) = true := by
  by_cases h : fitL bk ds t p = []
  · rw [h, best_nil]; rfl
  · exact fit_pre _ (best_mem h).1
theorem best_len {bk : Bk} {ds : List D3} {t : List Nat} {p : Nat} (hp : p ≤ t.length) : p + (best (fitL bk ds t p)).length ≤ t.length := by
  have h := best_pre (bk := bk) (ds := ds) (t := t) (p := p)
  rw [← pre_take, beq_iff_eq] at h
  have := congrArg List.length h
  rw [List.length_take, List.length_drop] at this
  omega
theorem best_cand {bk : Bk} {ds : List D3} {t : List Nat} {p : Nat} (h : best (fitL bk ds t p) ≠ []) : best (fitL bk ds t p) ∈ cands bk ds := by
  by_cases e : fitL bk ds t p = []
  · rw [e, best_nil] at h; exact absurd rfl h
  · exact (List.mem_filter.mp (best_mem e).1).1
theorem door_of {bk : Bk} {ds : List D3} {m : List Nat} (h : m ∈ cands bk ds) (hc : cl? ds ≠ some m) : ∃ rest, (rowAt bk (tg ds)).2.filter (fun d => d.1 == m) = doorOf bk (tg ds) m :: rest ∧ doorOf bk (tg ds) m ∈ (rowAt bk (tg ds)).2 ∧ (doorOf bk (tg ds) m).1 = m := by
  have h1 : m ∈ (rowAt bk (tg ds)).2.map (·.1) := by
    rcases List.mem_append.mp h with z | z
    · exact z
    · cases e : cl? ds with
      | none => rw [e] at z; simp at z
      | some x => rw [e] at z hc; simp at z; exact absurd (by rw [z]) hc
  obtain ⟨d, hd, rfl⟩ := List.mem_map.mp h1
  have h2 : d ∈ (rowAt bk (tg ds)).2.filter (fun d' => d'.1 == d.1) := List.mem_filter.mpr ⟨hd, by simp⟩
  unfold doorOf
  cases e : (rowAt bk (tg ds)).2.filter (fun d' => d'.1 == d.1) with
  | nil => rw [e] at h2; simp at h2
  | cons x rest =>
    have hx := List.mem_filter.mp (show x ∈ (rowAt bk (tg ds)).2.filter (fun d' => d'.1 == d.1) by rw [e]; exact List.mem_cons_self)
    exact ⟨rest, rfl, hx.1, by simpa using hx.2⟩
theorem step_ok {bk : Bk} {ds : List D3} {t : List Nat} {p n : Nat} (hg : Good bk) (hd : DOk bk ds n) (hn : n ≤ 90000) (ht : TOk t) (hp : p < t.length) {Φ : M → Option M → Prop} (k : Φ (.dat (stepS bk ds t p).1.1) (some (dls (stepS bk ds t p).2))) :
    TF F_law_step [.dat (toBk bk), dls ds, .dat (.str t), .dat (.int p), .dat (.str (best (fitL bk ds t p)))] Φ := by
  have hi := tg_in hg hd
  obtain ⟨hrow, hrm⟩ := row_in hi.1 hi.2
  have ho := okD3 hd
  have hl10 := hg.z.d _ hrm
  have htl := ht.l
  have hnl := hd.n
  refine TF_B rfl ?_
  refine tongue_of (i := 5) hd rfl (by decide) ?_
  simp [start0, toBk, atI_pos hi.1, hrow, toRow]
  have htp : t[p]? = some t[p] := List.getElem?_eq_getElem hp
  have hbl := best_len (bk := bk) (ds := ds) (t := t) (p := p) (Nat.le_of_lt hp)
  have sign_ : ¬((rowAt bk (tg ds)).1 ≠ [] ∧ t[p]?.toList = (rowAt bk (tg ds)).1) → best (fitL bk ds t p) = [] → stepS bk ds t p = ((tupS p 1 (sc "sign") (tg ds) ds.length, 1), ds) := fun h1 h2 => by
    unfold stepS; rw [if_neg h1, if_pos h2]
  have close_ : ¬((rowAt bk (tg ds)).1 ≠ [] ∧ t[p]?.toList = (rowAt bk (tg ds)).1) → best (fitL bk ds t p) ≠ [] → cl? ds = some (best (fitL bk ds t p)) → stepS bk ds t p = ((tupS p (best (fitL bk ds t p)).length (sc "close") (tg ds.dropLast) (ds.length - 1), (best (fitL bk ds t p)).length), ds.dropLast) := fun h1 h2 h3 => by
    unfold stepS; rw [if_neg h1, if_neg h2, if_pos h3]
  have open_ : ¬((rowAt bk (tg ds)).1 ≠ [] ∧ t[p]?.toList = (rowAt bk (tg ds)).1) → best (fitL bk ds t p) ≠ [] → cl? ds ≠ some (best (fitL bk ds t p)) → stepS bk ds t p = ((tupS p (best (fitL bk ds t p)).length (sc "open") (tg ds) ds.length, (best (fitL bk ds t p)).length), ds ++ [(p, (doorOf bk (tg ds) (best (fitL bk ds t p))).2)]) := fun h1 h2 h3 => by
    unfold stepS; rw [if_neg h1, if_neg h2, if_neg h3]
  have hcand := best_cand (bk := bk) (ds := ds) (t := t) (p := p)
  have hdoor := fun h => door_of (bk := bk) (ds := ds) (m := best (fitL bk ds t p)) h
  generalize best (fitL bk ds t p) = b at *
  rw [htp]
  refine ⟨fun a => ⟨by omega, fun hb => ⟨by omega, ?_⟩, fun nb => ?_⟩, fun a => ?_⟩
  · have e1 : (rowAt bk (tg ds)).1 ≠ [] ∧ t[p]?.toList = (rowAt bk (tg ds)).1 := ⟨a, by rw [htp]; exact hb⟩
    unfold stepS at k
    rw [if_pos e1] at k
    by_cases hl : p + 1 = t.length
    · rw [if_pos hl] at k
      rw [if_pos (by omega)]
      simp
      exact k
    · rw [if_neg hl] at k
      rw [if_neg (by omega)]
      simp
      exact k
  all_goals
    have hne : ¬((rowAt bk (tg ds)).1 ≠ [] ∧ t[p]?.toList = (rowAt bk (tg ds)).1) := by
      rw [htp]
      rintro ⟨z1, z2⟩
      first | exact nb z2 | exact z1 a
    refine ⟨fun hb => ?_, fun hb => ⟨fun x x1 x2 x3 hx e => by subst e; exact okE_mono (by decide) (ho _ hx), fun e => ?_, fun e => ?_⟩⟩
    · rw [sign_ hne hb] at k
      exact k
    · rw [peqs_nil] at e
      rcases List.eq_nil_or_concat ds with rfl | ⟨init, d, rfl⟩
      · simp at e
      · rw [List.concat_eq_append] at *
        rw [cl_app] at *
        simp [toD3]
        refine ⟨fun hbd => ⟨fun x a1 b1 c1 hm e => by subst e; have := ho (a1, b1, c1) (by simp [hm]); simp [toD3] at this ⊢; exact this, fun e1 => ?_, fun e1 => ?_⟩, fun hbd => ?_⟩
        · rw [close_ hne hb (by rw [hbd])] at k
          rw [peqs_nil] at e1
          rcases List.eq_nil_or_concat init with rfl | ⟨i2, d2, rfl⟩
          · simp at e1
          · rw [List.concat_eq_append] at *
            simp [tupS, tg_app, toD3, dls] at k ⊢
            rw [show ((i2.length : Int) + 2 - 1) = i2.length + 1 by omega] at k
            exact ⟨by omega, k⟩
        · rw [close_ hne hb (by rw [hbd])] at k
          rw [peqs_nil] at e1
          have : init = [] := by simpa using e1
          subst this
          simp [tupS, tg_nil, toD3, dls] at k ⊢
          exact ⟨by omega, k⟩
        · obtain ⟨rest, hf, hdm, hdm1⟩ := hdoor (hcand hb) (fun z => hbd (by cases z; rfl))
          rw [open_ hne hb (fun z => hbd (by cases z; rfl))] at k
          have hfl := List.length_filter_le (fun d : Dr => d.1 == b) (rowAt bk (tg (init ++ [d]))).2
          refine Tp_of (gLcP_map (p := fun d => d.1 == b) (h := toDr) fun d' hd' => by simp [toDr]) ?_
          rw [hf] at hfl ⊢
          simp at hfl hnl
          simp [toDr]
          refine ⟨by omega, by omega, by omega, ?_⟩
          simpa [tupS, toD3, dls] using k
    · rw [peqs_nil] at e
      have : ds = [] := by simpa using e
      subst this
      obtain ⟨rest, hf, hdm, hdm1⟩ := hdoor (hcand hb) (fun z => by simp [cl?] at z)
      rw [open_ hne hb (fun z => by simp [cl?] at z)] at k
      have hfl := List.length_filter_le (fun d : Dr => d.1 == b) (rowAt bk (tg [])).2
      refine Tp_of (gLcP_map (p := fun d => d.1 == b) (h := toDr) fun d' hd' => by simp [toDr]) ?_
      rw [hf] at hfl ⊢
      simp at hfl
      simp [toDr]
      refine ⟨by omega, by omega, ?_⟩
      simpa [tupS, toD3, dls] using k
end Y
namespace Y
open PySem L2
theorem sc_ok : (∀ x ∈ sc "cut", x < 1114112) ∧ (∀ x ∈ sc "escape", x < 1114112) ∧ (∀ x ∈ sc "sign", x < 1114112) ∧ (∀ x ∈ sc "close", x < 1114112) ∧ (∀ x ∈ sc "open", x < 1114112) := by decide +kernel
theorem step_shape {bk : Bk} {ds : List D3} {t : List Nat} {p : Nat} : ∃ w to dep, (stepS bk ds t p).1.1 = tupS p (stepS bk ds t p).1.2 w to dep ∧ (∀ x ∈ w, x < 1114112) := by
  unfold stepS
  obtain ⟨h1, h2, h3, h4, h5⟩ := sc_ok
  split
  · split
    · exact ⟨_, _, _, rfl, h1⟩
    · exact ⟨_, _, _, rfl, h2⟩
  · split
    · exact ⟨_, _, _, rfl, h3⟩
    · split
      · exact ⟨_, _, _, rfl, h4⟩
      · exact ⟨_, _, _, rfl, h5⟩
theorem mem_dl {α : Type} {l : List α} {x : α} (h : x ∈ l.dropLast) : x ∈ l := by
  rw [List.dropLast_eq_take] at h
  exact List.mem_of_mem_take h
theorem step_facts {bk : Bk} {ds : List D3} {t : List Nat} {p : Nat} (hg : Good bk) (hd : DOk bk ds p) (hp : p < t.length) : 1 ≤ (stepS bk ds t p).1.2 ∧ p + (stepS bk ds t p).1.2 ≤ t.length ∧ DOk bk (stepS bk ds t p).2 (p + (stepS bk ds t p).1.2) := by
  have hbl := best_len (bk := bk) (ds := ds) (t := t) (p := p) (Nat.le_of_lt hp)
  have hi := tg_in hg hd
  obtain ⟨hrow, hrm⟩ := row_in hi.1 hi.2
  have more : ∀ n, DOk bk ds (p + n) := fun n => ⟨hd.r, hd.c, Nat.le_trans hd.n (Nat.le_add_right _ _)⟩
  unfold stepS
  split
  · split
    · exact ⟨Nat.le_refl _, hp, more _⟩
    · exact ⟨Nat.le_add_left 1 1, by show p + 2 ≤ _; omega, more _⟩
  · split
    · exact ⟨Nat.le_refl _, hp, more _⟩
    · rename_i hb
      have h1 : 1 ≤ (best (fitL bk ds t p)).length := List.length_pos_iff.mpr hb
      split
      · exact ⟨h1, hbl, fun d h => hd.r d (mem_dl h), fun d h => hd.c d (mem_dl h), by have := hd.n; simp; omega⟩
      · rename_i hc
        obtain ⟨rest, _, hdm, hdm1⟩ := door_of (best_cand hb) hc
        refine ⟨h1, hbl, fun d h => ?_, fun d h => ?_, by have := hd.n; simp; omega⟩
        · rcases List.mem_append.mp h with z | z
          · exact hd.r d z
          · rw [List.mem_singleton.mp z]; exact hg.z.r _ hrm _ hdm
        · rcases List.mem_append.mp h with z | z
          · exact hd.c d z
          · rw [List.mem_singleton.mp z]
            have hk := hg.z.k _ hrm _ hdm
            simp [toDr] at hk
            exact ⟨(hg.z.c _ hrm _ hdm).1, (hg.z.c _ hrm _ hdm).2, hk.2⟩
def runS (bk : Bk) (t : List Nat) : Nat → List D3 → Nat → List D × List D3
  | 0, ds, _ => ([], ds)
  | n + 1, ds, p => if p < t.length then ((stepS bk ds t p).1.1 :: (runS bk t n (stepS bk ds t p).2 (p + (stepS bk ds t p).1.2)).1, (runS bk t n (stepS bk ds t p).2 (p + (stepS bk ds t p).1.2)).2) else ([], ds)
theorem runS_end {bk : Bk} {t : List Nat} {n : Nat} {ds : List D3} {p : Nat} (h : t.length ≤ p) : runS bk t n ds p = ([], ds) := by
  cases n with
  | zero => rfl
  | succ n => unfold runS; rw [if_neg (by omega)]
theorem runS_go {bk : Bk} {t : List Nat} {n : Nat} {ds : List D3} {p : Nat} (h : p < t.length) : runS bk t (n + 1) ds p = ((stepS bk ds t p).1.1 :: (runS bk t n (stepS bk ds t p).2 (p + (stepS bk ds t p).1.2)).1, (runS bk t n (stepS bk ds t p).2 (p + (stepS bk ds t p).1.2)).2) := by
  conv => lhs; unfold runS
  rw [if_pos h]
/-- what a walk has: the steps told, the doors, the place -/
structure Run (bk : Bk) (t : List Nat) (ds : List D3) (acc : List D) (p : Nat) : Prop where
  d : DOk bk ds p
  q : p ≤ t.length
  r : ∃ f, t.length - p ≤ f ∧ acc ++ (runS bk t f ds p).1 = (runS bk t t.length [] 0).1 ∧ (runS bk t f ds p).2 = (runS bk t t.length [] 0).2
  a : acc.length ≤ p
  k : ∀ x ∈ acc, okE 3 x = true
theorem run0 {bk : Bk} {t : List Nat} : Run bk t [] [] 0 := ⟨⟨by simp, by simp, by simp⟩, Nat.zero_le _, ⟨t.length, Nat.sub_le _ _, by simp, rfl⟩, by simp, by simp⟩
theorem run_go {bk : Bk} {t : List Nat} {ds : List D3} {acc : List D} {p : Nat} (hg : Good bk) (h : Run bk t ds acc p) (hp : p < t.length) : Run bk t (stepS bk ds t p).2 (acc ++ [(stepS bk ds t p).1.1]) (p + (stepS bk ds t p).1.2) := by
  obtain ⟨h1, h2, h3⟩ := step_facts hg h.d hp
  obtain ⟨f, hf, e1, e2⟩ := h.r
  cases f with
  | zero => omega
  | succ f =>
    rw [runS_go hp] at e1 e2
    refine ⟨h3, h2, ⟨f, by omega, by rw [List.append_assoc]; exact e1, e2⟩, by have := h.a; simp; omega, fun x hx => ?_⟩
    rcases List.mem_append.mp hx with z | z
    · exact h.k x z
    · rw [List.mem_singleton.mp z]
      obtain ⟨w, to, dep, e, hw⟩ := step_shape (bk := bk) (ds := ds) (t := t) (p := p)
      rw [e]
      simp [tupS]
      exact hw
theorem run_end {bk : Bk} {t : List Nat} {ds : List D3} {acc : List D} {p : Nat} (h : Run bk t ds acc p) (hp : ¬ p < t.length) : acc = (runS bk t t.length [] 0).1 ∧ ds = (runS bk t t.length [] 0).2 := by
  obtain ⟨f, hf, e1, e2⟩ := h.r
  rw [runS_end (by omega)] at e1 e2
  exact ⟨by simpa using e1, e2⟩
structure LI (bk : Bk) (t : List Nat) (m : Nat) (ρ : Env) : Prop where
  env : ∃ ds acc p x5, ρ = [some (.dat (toBk bk)), some (.dat (.str t)), some (dls ds), some (.lst (acc.map M.dat)), some (.dat (.int (p : Nat))), x5] ∧ Run bk t ds acc p ∧ m = t.length - p
theorem join_best {l : List (List Nat)} (h : ∀ m ∈ l, m.length ≤ 4) : fJoin [] [.lst (((l.mergeSort (leLen false)).reverse.take 1).map (M.dat ∘ D.str))] = some (.dat (.str (best l))) := by
  have e : litems (.lst (((l.mergeSort (leLen false)).reverse.take 1).map (M.dat ∘ D.str))) = some (((l.mergeSort (leLen false)).reverse.take 1).map D.str) := by rw [← List.map_map]; exact all_str _
  rw [fJoin_strs e]
  unfold best
  cases e2 : (l.mergeSort (leLen false)).reverse with
  | nil => simp [TL.joinL]
  | cons x r =>
    have hx : x ∈ l := by
      have : x ∈ (l.mergeSort (leLen false)).reverse := by rw [e2]; exact List.mem_cons_self
      exact List.mem_mergeSort.mp (List.mem_reverse.mp this)
    have := h x hx
    simp [TL.joinL]
    omega
theorem law_steps_ok {bk : Bk} {t : List Nat} (hg : Good bk) (ht : TOk t) {Φ : M → Option M → Prop} (k : (∀ x ∈ (runS bk t t.length [] 0).1, okE 3 x = true) → Φ (.lst [.dat (.lst (runS bk t t.length [] 0).1), .dat (.lst ((runS bk t t.length [] 0).2.map toD3))]) none) : TF F_law_steps [.dat (toBk bk), .dat (.str t)] Φ := by
  have htl := ht.l
  refine TF_B rfl ?_
  simp [g_law_steps, start0]
  refine T_whileL (LI bk t) ?_ 1000000 t.length _ ⟨[], [], 0, none, rfl, run0, by simp⟩ (by omega)
  rintro m ρ ⟨ds, acc, p, x5, rfl, hr, rfl⟩
  simp
  refine ⟨by omega, fun hp => ?_, fun hp => ?_⟩
  · refine fitting_ok hg hr.d ht ?_
    simp
    rw [← List.map_reverse]
    refine Tp_views_comp.mpr ?_
    rw [cutD_hi (by decide), show (1 : Int).toNat = 1 from rfl, ← List.map_take, List.map_map, join_best (l := fitL bk ds t p) fun m hm => ((cand_ok hg hr.d).1 m (List.mem_filter.mp hm).1).l]
    simp only [Tp_some, view_dat]
    refine step_ok hg hr.d (Nat.le_trans hr.q htl) ht hp ?_
    obtain ⟨w, to, dep, e, hw⟩ := step_shape (bk := bk) (ds := ds) (t := t) (p := p)
    have hgo := run_go hg hr hp
    obtain ⟨h1, h2, h3⟩ := step_facts hg hr.d hp
    have ha := hr.a
    rw [e] at hgo ⊢
    simp [tupS] at hgo ⊢
    refine ⟨by omega, t.length - (p + (stepS bk ds t p).1.2), by omega, _, _, _, _, by rw [List.map_append, Int.natCast_add]; rfl, hgo, rfl⟩
  · obtain ⟨rfl, rfl⟩ := run_end hr (by omega)
    exact k hr.k
end Y
namespace Y
open PySem L2
def frO (bk : Bk) (l : M) : M := .obj 0 [("book", .dat (toBk bk)), ("doors", l)]
section
variable {bk : Bk} {l m : M}
theorem nmB : (("doors" : Str) = "book") = False := by decide
theorem nmB' : (("book" : Str) = "doors") = False := by decide
@[simp] theorem frO_book : stepM (frO bk l) "book" = some (.dat (toBk bk)) := by simp [frO]
@[simp] theorem frO_doors : stepM (frO bk l) "doors" = some l := by simp [frO, nmB]
@[simp] theorem frO_put : putFld m "doors" (frO bk l) = frO bk m := by simp [frO, nmB']
@[simp] theorem frO_is : (∃ fs, frO bk l = .obj 0 fs) ↔ True := by simp [frO]
theorem frO_m {x : Str} (h1 : (x = "book") = False) (h2 : (x = "doors") = False) : (∃ fs, frO bk l = .obj 0 fs ∧ lookM x fs = none) ↔ True := by
  simp only [iff_true]
  exact ⟨_, rfl, by simp [h1, h2]⟩
@[simp] theorem frO_tongue : (∃ fs, frO bk l = .obj 0 fs ∧ lookM "tongue" fs = none) ↔ True := frO_m (by decide) (by decide)
@[simp] theorem frO_close : (∃ fs, frO bk l = .obj 0 fs ∧ lookM "close" fs = none) ↔ True := frO_m (by decide) (by decide)
@[simp] theorem frO_step : (∃ fs, frO bk l = .obj 0 fs ∧ lookM "step" fs = none) ↔ True := frO_m (by decide) (by decide)
@[simp] theorem frO_word : (∃ fs, frO bk l = .obj 0 fs ∧ lookM "word" fs = none) ↔ True := frO_m (by decide) (by decide)
@[simp] theorem frO_do : (∃ fs, frO bk l = .obj 0 fs ∧ lookM "do" fs = none) ↔ True := frO_m (by decide) (by decide)
end
theorem init_ok {bk : Bk} {Φ : M → Option M → Prop} (k : Φ (.dat .non) (some (frO bk (dls [])))) : TF F_Frames___init__ [.obj 0 [], .dat (toBk bk)] Φ := by
  refine TF_B rfl ?_
  simp [g_Frames___init__, start0, nmB']
  exact k
def clD (ds : List D3) : D := match cl? ds with
  | some c => .str c
  | none => .non
theorem ptongue_ok {bk : Bk} {ds : List D3} {n : Nat} (hd : DOk bk ds n) {Φ : M → Option M → Prop} (k : Φ (.dat (.int (tg ds))) (some (frO bk (dls ds)))) : TF F_Frames_tongue [frO bk (dls ds)] Φ := by
  have ho := okD3 hd
  refine TF_B rfl ?_
  simp [g_Frames_tongue, start0]
  refine ⟨fun x a b c hm e => by subst e; exact okE_mono (by decide) (ho _ hm), fun e => ?_, fun e => ?_⟩
  · rw [peqs_nil] at e
    have : ds = [] := by simpa using e
    subst this
    exact k
  · rw [peqs_nil] at e
    rcases List.eq_nil_or_concat ds with rfl | ⟨init, d, rfl⟩
    · simp at e
    · rw [List.concat_eq_append] at *
      rw [tg_app] at k
      simp [toD3]
      exact k
theorem pclose_ok {bk : Bk} {ds : List D3} {n : Nat} (hd : DOk bk ds n) {Φ : M → Option M → Prop} (k : Φ (.dat (clD ds)) (some (frO bk (dls ds)))) : TF F_Frames_close [frO bk (dls ds)] Φ := by
  have ho := okD3 hd
  refine TF_B rfl ?_
  simp [g_Frames_close, start0]
  refine ⟨fun x a b c hm e => by subst e; exact okE_mono (by decide) (ho _ hm), fun e => ?_, fun e => ?_⟩
  · rw [peqs_nil] at e
    have : ds = [] := by simpa using e
    subst this
    exact k
  · rw [peqs_nil] at e
    rcases List.eq_nil_or_concat ds with rfl | ⟨init, d, rfl⟩
    · simp at e
    · rw [List.concat_eq_append] at *
      rw [clD, cl_app] at k
      simp [toD3]
      exact k
theorem door_by_ok {bk : Bk} {to : Int} {m : List Nat} (hg : Good bk) (h0 : 0 ≤ to) (h1 : to < bk.length) {rest : List Dr} {d : Dr} (hf : (rowAt bk to).2.filter (fun d => d.1 == m) = d :: rest) {Φ : M → Option M → Prop} (k : Φ (.dat (toDr d)) none) : TF F_door_by [.dat (toBk bk), .dat (.int to), .dat (.str m)] Φ := by
  obtain ⟨hrow, hrm⟩ := row_in h0 h1
  have hfl := List.length_filter_le (fun d : Dr => d.1 == m) (rowAt bk to).2
  have := hg.z.d _ hrm
  refine TF_B rfl ?_
  simp [g_door_by, start0, toBk, atI_pos h0, hrow, toRow]
  refine Tp_of (gLcP_map (p := fun d => d.1 == m) (h := toDr) fun d' hd' => by simp [toDr]) ?_
  rw [hf] at hfl ⊢
  simp at hfl ⊢
  exact ⟨by omega, k⟩
theorem marks_at_ok {bk : Bk} {ds : List D3} {t : List Nat} {p n : Nat} (hg : Good bk) (hd : DOk bk ds n) (ht : TOk t) (hp : p ≤ t.length) {Φ : M → Option M → Prop} (k : Φ (.lst (txs ((fitL bk ds t p).mergeSort (leLen true)))) none) : TF F_marks_at [.dat (toBk bk), .dat (.int (tg ds)), .dat (clD ds), .dat (.str t), .dat (.int p)] Φ := by
  have hi := tg_in hg hd
  obtain ⟨hrow, hrm⟩ := row_in hi.1 hi.2
  have hc := cand_ok hg hd
  have hl10 := hg.z.d _ hrm
  have htl := ht.l
  have tail : ∀ ρ : Env, getS ρ 3 = some (.dat (.str t)) → getS ρ 4 = some (.dat (.int p)) → 7 < ρ.length → Tp (gLcP (gTo 7) (tB' (nB (fStrM fStarts3) (gV 3) (psCons (gV 7) (psCons (gV 4) psNil)))) (gV 7) ρ ((cands bk ds).map D.str)) fun acc => acc.length ≤ 100000 ∧ Tp (fSortLen true [M.lst (List.map M.dat acc)]) fun m => Φ m none := fun ρ h3 h4 h7 => by
    refine Tp_of (gLcP_map (p := fun m => m.isPrefixOf (t.drop p)) (h := D.str) fun m hm => ?_) ?_
    · simp [getS_set_ne (show 7 ≠ 3 by decide), getS_set_ne (show 7 ≠ 4 by decide), getS_set_eq h7, h3, h4]
      omega
    · have hf : ∀ m ∈ fitL bk ds t p, m ∈ cands bk ds := fun m hm => (List.mem_filter.mp hm).1
      have hfl : (fitL bk ds t p).length ≤ 11 := Nat.le_trans (List.length_filter_le _ _) hc.2
      show ((fitL bk ds t p).map D.str).length ≤ 100000 ∧ _
      refine ⟨by simp; omega, ?_⟩
      rw [show List.filter (fun m => m.isPrefixOf (List.drop p t)) (cands bk ds) = fitL bk ds t p from rfl, fSort_strs (all_str _) (by omega) fun s hs => by have := (hc.1 s (hf s hs)).l; omega]
      simp
      exact k
  refine TF_B rfl ?_
  simp [g_marks_at, start0, toBk, atI_pos hi.1, hrow, toRow]
  refine Tp_of (gLcP_all (h := fun d => .str d.1) fun d hd => by simp [toDr]) ⟨by simp; omega, ?_⟩
  unfold clD
  cases ec : cl? ds with
  | none =>
    have e : ((rowAt bk (tg ds)).2.map fun d => D.str d.1) = (cands bk ds).map D.str := by
      unfold cands
      rw [ec, List.map_append, List.map_map]
      simp
    rw [e]
    simp
    exact tail _ rfl rfl (by simp)
  | some c =>
    have e : ((rowAt bk (tg ds)).2.map fun d => D.str d.1) ++ [D.str c] = (cands bk ds).map D.str := by
      unfold cands
      rw [ec, List.map_append, List.map_map]
      simp
    simp only [e]
    simp
    exact ⟨by omega, tail _ rfl rfl (by simp)⟩
theorem word_ok {bk : Bk} {ds : List D3} {n : Nat} {m : List Nat} (hd : DOk bk ds n) {Φ : M → Option M → Prop} (k : Φ (.dat (.str (if cl? ds = some m then sc "close" else sc "open"))) (some (frO bk (dls ds)))) : TF F_Frames_word [frO bk (dls ds), .dat (.str m)] Φ := by
  refine TF_B rfl ?_
  simp [g_Frames_word, start0]
  refine pclose_ok hd ?_
  unfold clD
  cases ec : cl? ds with
  | none => rw [ec] at k; simp at k; simp; exact k
  | some c =>
    rw [ec] at k
    simp at k
    simp
    refine ⟨fun e => ?_, fun e => ?_⟩
    · rw [if_pos e.symm] at k; exact k
    · rw [if_neg fun z => e z.symm] at k; exact k
/-- what a step tells ahead of the doing: its length and word -/
def wordS (bk : Bk) (ds : List D3) (t : List Nat) (p : Nat) : List Nat :=
  if (rowAt bk (tg ds)).1 ≠ [] ∧ t[p]?.toList = (rowAt bk (tg ds)).1 then (if p + 1 = t.length then sc "cut" else sc "escape")
  else if best (fitL bk ds t p) = [] then sc "sign"
  else if cl? ds = some (best (fitL bk ds t p)) then sc "close" else sc "open"
theorem pstep_ok {bk : Bk} {ds : List D3} {t : List Nat} {p n : Nat} (hg : Good bk) (hd : DOk bk ds n) (hn : n ≤ 90000) (ht : TOk t) (hp : p < t.length) {Φ : M → Option M → Prop} (k : Φ (.dat (.tup [.int (stepS bk ds t p).1.2, .str (wordS bk ds t p)])) (some (frO bk (dls ds)))) :
    TF F_Frames_step [frO bk (dls ds), .dat (.str t), .dat (.int p)] Φ := by
  have hi := tg_in hg hd
  obtain ⟨hrow, hrm⟩ := row_in hi.1 hi.2
  have htl := ht.l
  refine TF_B rfl ?_
  simp [g_Frames_step, start0]
  refine ptongue_ok hd ?_
  simp [toBk, atI_pos hi.1, hrow, toRow]
  have htp : t[p]? = some t[p] := List.getElem?_eq_getElem hp
  have hbl := best_len (bk := bk) (ds := ds) (t := t) (p := p) (Nat.le_of_lt hp)
  rw [htp]
  simp only [Tp_some]
  refine ⟨fun a => ⟨by omega, fun hb => ⟨by omega, fun hl => ?_, fun hl => ?_⟩, fun nb => ?_⟩, fun a => ?_⟩
  · have e1 : (rowAt bk (tg ds)).1 ≠ [] ∧ t[p]?.toList = (rowAt bk (tg ds)).1 := ⟨a, by rw [htp]; exact hb⟩
    unfold stepS wordS at k
    rw [if_pos e1, if_pos e1, if_pos (by omega), if_pos (by omega)] at k
    exact k
  · have e1 : (rowAt bk (tg ds)).1 ≠ [] ∧ t[p]?.toList = (rowAt bk (tg ds)).1 := ⟨a, by rw [htp]; exact hb⟩
    unfold stepS wordS at k
    rw [if_pos e1, if_pos e1, if_neg (by omega), if_neg (by omega)] at k
    exact k
  all_goals
    have hne : ¬((rowAt bk (tg ds)).1 ≠ [] ∧ t[p]?.toList = (rowAt bk (tg ds)).1) := by
      rw [htp]
      rintro ⟨z1, z2⟩
      first | exact nb z2 | exact z1 a
    refine ptongue_ok hd ?_
    simp
    refine pclose_ok hd ?_
    simp
    refine marks_at_ok hg hd ht (Nat.le_of_lt hp) ?_
    simp
    refine ⟨fun x hx => ((cand_ok hg hd).1 x (List.mem_filter.mp hx).1).c, fun e => ?_, fun e => ?_⟩
    · rw [peqs_nil] at e
      have e0 : fitL bk ds t p = [] := by
        have := congrArg List.length (show (fitL bk ds t p).mergeSort (leLen true) = [] by simpa using e)
        rw [List.length_mergeSort] at this
        exact List.length_eq_zero_iff.mp this
      have hb := (best_iff hg hd).mpr e0
      unfold stepS wordS at k
      rw [if_neg hne, if_neg hne, if_pos hb, if_pos hb] at k
      exact k
    · have e0 : fitL bk ds t p ≠ [] := fun z => by rw [z] at e; simp at e
      have hb : best (fitL bk ds t p) ≠ [] := fun z => e0 ((best_iff hg hd).mp z)
      obtain ⟨rest, er⟩ := bestR_eq e0
      rw [er]
      simp
      refine ⟨by omega, word_ok hd ?_⟩
      simp
      unfold stepS wordS at k
      rw [if_neg hne, if_neg hne, if_neg hb, if_neg hb] at k
      by_cases hc : cl? ds = some (best (fitL bk ds t p))
      · rw [if_pos hc, if_pos hc] at k
        rw [if_pos hc]
        exact k
      · rw [if_neg hc, if_neg hc] at k
        rw [if_neg hc]
        exact k
theorem wd_ne : (sc "cut" = sc "open") = False ∧ (sc "cut" = sc "close") = False ∧ (sc "escape" = sc "open") = False ∧ (sc "escape" = sc "close") = False ∧ (sc "sign" = sc "open") = False ∧ (sc "sign" = sc "close") = False ∧ (sc "close" = sc "open") = False ∧ (sc "open" = sc "close") = False := by decide +kernel
theorem do_ok {bk : Bk} {ds : List D3} {t : List Nat} {p : Nat} (hg : Good bk) (hd : DOk bk ds p) (ht : TOk t) (hp : p < t.length) {Φ : M → Option M → Prop} (k : Φ (.dat (stepS bk ds t p).1.1) (some (frO bk (dls (stepS bk ds t p).2)))) :
    TF F_Frames_do [frO bk (dls ds), .dat (.str t), .dat (.int p), .dat (.int (stepS bk ds t p).1.2), .dat (.str (wordS bk ds t p))] Φ := by
  have hi := tg_in hg hd
  obtain ⟨hrow, hrm⟩ := row_in hi.1 hi.2
  have htl := ht.l
  have hnl := hd.n
  obtain ⟨n1, n2, n3, n4, n5, n6, n7, n8⟩ := wd_ne
  refine TF_B rfl ?_
  simp [g_Frames_do, start0]
  refine ptongue_ok hd ?_
  simp
  have hbl := best_len (bk := bk) (ds := ds) (t := t) (p := p) (Nat.le_of_lt hp)
  by_cases e1 : (rowAt bk (tg ds)).1 ≠ [] ∧ t[p]?.toList = (rowAt bk (tg ds)).1
  · by_cases hl : p + 1 = t.length
    · have hs : stepS bk ds t p = ((tupS p 1 (sc "cut") (tg ds) ds.length, 1), ds) := by unfold stepS; rw [if_pos e1, if_pos hl]
      have hw : wordS bk ds t p = sc "cut" := by unfold wordS; rw [if_pos e1, if_pos hl]
      rw [hs] at k ⊢
      rw [hw]
      simp [n1, n2]
      exact k
    · have hs : stepS bk ds t p = ((tupS p 2 (sc "escape") (tg ds) ds.length, 2), ds) := by unfold stepS; rw [if_pos e1, if_neg hl]
      have hw : wordS bk ds t p = sc "escape" := by unfold wordS; rw [if_pos e1, if_neg hl]
      rw [hs] at k ⊢
      rw [hw]
      simp [n3, n4]
      exact k
  · by_cases hb : best (fitL bk ds t p) = []
    · have hs : stepS bk ds t p = ((tupS p 1 (sc "sign") (tg ds) ds.length, 1), ds) := by unfold stepS; rw [if_neg e1, if_pos hb]
      have hw : wordS bk ds t p = sc "sign" := by unfold wordS; rw [if_neg e1, if_pos hb]
      rw [hs] at k ⊢
      rw [hw]
      simp [n5, n6]
      exact k
    · by_cases hc : cl? ds = some (best (fitL bk ds t p))
      · have hs : stepS bk ds t p = ((tupS p (best (fitL bk ds t p)).length (sc "close") (tg ds.dropLast) (ds.length - 1), (best (fitL bk ds t p)).length), ds.dropLast) := by unfold stepS; rw [if_neg e1, if_neg hb, if_pos hc]
        have hw : wordS bk ds t p = sc "close" := by unfold wordS; rw [if_neg e1, if_neg hb, if_pos hc]
        have hd2 := (step_facts hg hd hp).2.2
        rw [hs] at k hd2 ⊢
        rw [hw]
        rcases List.eq_nil_or_concat ds with rfl | ⟨init, d, rfl⟩
        · simp [cl?] at hc
        · rw [List.concat_eq_append] at *
          simp at hd2
          simp [n7]
          refine ptongue_ok hd2 ?_
          simp [tupS] at k
          simp
          exact k
      · obtain ⟨rest, hf, hdm, hdm1⟩ := door_of (best_cand hb) hc
        have hs : stepS bk ds t p = ((tupS p (best (fitL bk ds t p)).length (sc "open") (tg ds) ds.length, (best (fitL bk ds t p)).length), ds ++ [(p, (doorOf bk (tg ds) (best (fitL bk ds t p))).2)]) := by unfold stepS; rw [if_neg e1, if_neg hb, if_neg hc]
        have hw : wordS bk ds t p = sc "open" := by unfold wordS; rw [if_neg e1, if_neg hb, if_neg hc]
        have hpre := best_pre (bk := bk) (ds := ds) (t := t) (p := p)
        rw [← pre_take, beq_iff_eq] at hpre
        rw [hs] at k ⊢
        rw [hw]
        simp [n8]
        rw [cutD_lohi (by omega) (by omega), show ((p : Int) + (best (fitL bk ds t p)).length).toNat - (p : Int).toNat = (best (fitL bk ds t p)).length by omega, Int.toNat_natCast, hpre]
        refine ⟨by omega, door_by_ok hg hi.1 hi.2 hf ?_⟩
        simp [toDr]
        refine ⟨by omega, ?_⟩
        simpa [tupS, dls, toD3] using k
end Y
namespace Y
open PySem L2
structure PrI (bk : Bk) (t : List Nat) (m : Nat) (ρ : Env) : Prop where
  env : ∃ ds acc p x4 x5, ρ = [some (frO bk (dls ds)), some (.dat (.str t)), some (.dat (.int (p : Nat))), some (.lst (acc.map M.dat)), x4, x5] ∧ Run bk t ds acc p ∧ m = t.length - p
theorem read_on_ok {bk : Bk} {t : List Nat} (hg : Good bk) (ht : TOk t) {Φ : M → Option M → Prop} (k : (∀ x ∈ (runS bk t t.length [] 0).1, okE 3 x = true) → Φ (.lst ((runS bk t t.length [] 0).1.map M.dat)) (some (frO bk (dls (runS bk t t.length [] 0).2)))) : TF F_read_on [frO bk (dls []), .dat (.str t), .dat (.int 0)] Φ := by
  have htl := ht.l
  refine TF_B rfl ?_
  simp [g_read_on, start0]
  refine T_whileL (PrI bk t) ?_ 1000000 t.length _ ⟨[], [], 0, none, none, rfl, run0, by simp⟩ (by omega)
  rintro m ρ ⟨ds, acc, p, x4, x5, rfl, hr, rfl⟩
  simp
  refine ⟨by omega, fun hp => ?_, fun hp => ?_⟩
  · refine pstep_ok hg hr.d (Nat.le_trans hr.q htl) ht hp ?_
    simp
    refine do_ok hg hr.d ht hp ?_
    have hgo := run_go hg hr hp
    obtain ⟨h1, h2, h3⟩ := step_facts hg hr.d hp
    have ha := hr.a
    simp
    refine ⟨by omega, t.length - (p + (stepS bk ds t p).1.2), by omega, _, _, _, _, _, by rw [List.map_append, Int.natCast_add]; rfl, hgo, rfl⟩
  · obtain ⟨rfl, rfl⟩ := run_end hr (by omega)
    exact k hr.k
theorem steps_ok {bk : Bk} {t : List Nat} (hg : Good bk) (ht : TOk t) {Φ : M → Option M → Prop} (k : (∀ x ∈ (runS bk t t.length [] 0).1, okE 3 x = true) → Φ (.lst ((runS bk t t.length [] 0).1.map M.dat)) none) : TF F_steps [.dat (toBk bk), .dat (.str t)] Φ := by
  refine TF_B rfl ?_
  simp [g_steps, start0]
  refine init_ok ?_
  simp
  exact read_on_ok hg ht fun h => k h
theorem runS_shape {bk : Bk} {t : List Nat} : ∀ (n : Nat) (ds : List D3) (p : Nat), ∀ x ∈ (runS bk t n ds p).1, ∃ p many w to dep, x = tupS p many w to dep
  | 0, ds, p, x, h => by simp [runS] at h
  | n + 1, ds, p, x, h => by
    by_cases hp : p < t.length
    · rw [runS_go hp] at h
      rcases List.mem_cons.mp h with z | z
      · obtain ⟨w, to, dep, e, _⟩ := step_shape (bk := bk) (ds := ds) (t := t) (p := p)
        exact ⟨_, _, _, _, _, z.trans e⟩
      · exact runS_shape n _ _ x z
    · rw [runS_end (by omega)] at h
      simp at h
theorem peqs_refl {n : Nat} {l : List D} (h : ∀ x ∈ l, okE n x = true) : peqs l l = true := peqs_all n (fun _ => peq_refl) l h
theorem in_range {n : Nat} {pre suf : List Nat} {x : Nat} (h : List.range n = pre ++ x :: suf) : x < n := List.mem_range.mp (by rw [h]; simp)
theorem filter_ff {α : Type} : ∀ l : List α, l.filter (fun _ => false) = []
  | [] => rfl
  | x :: l => by simp [filter_ff l]
end Y
/-! where the doors come from; marks that fit are of unlike lengths -/
namespace Y
open PySem L2
theorem apart_nodup : ∀ {l : List (List Nat)}, apart l = l.length → l.Nodup
  | [], _ => List.nodup_nil
  | x :: r, h => by
    unfold apart at h
    have hle := apart_le r
    split at h
    · simp only [List.length_cons] at h; omega
    · rename_i hn
      simp only [List.length_cons] at h
      refine List.nodup_cons.mpr ⟨fun hx => hn ?_, apart_nodup (by omega)⟩
      exact List.any_eq_true.mpr ⟨x, hx, by simp⟩
/-- each open door is one of the book -/
def DOr (bk : Bk) (ds : List D3) : Prop := ∀ d ∈ ds, ∃ r ∈ bk, ∃ e ∈ r.2, e.2 = d.2
theorem dor_nil {bk : Bk} : DOr bk [] := fun _ h => by simp at h
theorem dor_step {bk : Bk} {ds : List D3} {t : List Nat} {p n : Nat} (hg : Good bk) (hd : DOk bk ds n) (ho : DOr bk ds) : DOr bk (stepS bk ds t p).2 := by
  have hi := tg_in hg hd
  obtain ⟨hrow, hrm⟩ := row_in hi.1 hi.2
  unfold stepS
  split
  · split <;> exact ho
  · split
    · exact ho
    · rename_i hb
      split
      · exact fun d h => ho d (mem_dl h)
      · rename_i hc
        obtain ⟨rest, _, hdm, hdm1⟩ := door_of (best_cand hb) hc
        intro d h
        rcases List.mem_append.mp h with z | z
        · exact ho d z
        · rw [List.mem_singleton.mp z]
          exact ⟨_, hrm, _, hdm, rfl⟩
theorem cands_nodup {bk : Bk} {ds : List D3} {n : Nat} (hg : Good bk) (hd : DOk bk ds n) (ho : DOr bk ds) : (cands bk ds).Nodup := by
  have hi := tg_in hg hd
  obtain ⟨hrow, hrm⟩ := row_in hi.1 hi.2
  have h1 : ((rowAt bk (tg ds)).2.map (·.1)).Nodup := by
    have := apart_nodup (l := ((rowAt bk (tg ds)).2.map (·.1)).reverse) (by rw [(hg.f _ hrm).u]; simp)
    unfold List.Nodup at this ⊢
    rw [List.pairwise_reverse] at this
    exact this.imp fun h e => h e.symm
  unfold cands
  refine List.nodup_append.mpr ⟨h1, by cases cl? ds <;> simp, fun a ha b hb e => ?_⟩
  subst e
  unfold cl? at hb
  cases el : ds.getLast? with
  | none => rw [el] at hb; simp at hb
  | some d =>
    rw [el] at hb
    simp at hb
    obtain ⟨o, ho1, rfl⟩ := List.mem_map.mp ha
    obtain ⟨r, hr, e, he, hed⟩ := ho d (List.mem_of_getLast? el)
    have ht : tg ds = e.2.1 := by unfold tg; rw [el, hed]
    have hq := (hg.f r hr).p e he (rowAt bk (tg ds)) (by rw [← ht]; exact hrow) o ho1
    rw [isPrefixOf_take, hb, ← hed] at hq
    simp at hq
theorem fit_lens {bk : Bk} {ds : List D3} {n : Nat} {t : List Nat} {p : Nat} (hg : Good bk) (hd : DOk bk ds n) (ho : DOr bk ds) : (fitL bk ds t p).Pairwise fun a b => a.length ≠ b.length := by
  have h := (cands_nodup hg hd ho).filter (fun m => m.isPrefixOf (t.drop p))
  refine List.Pairwise.imp_of_mem (fun {a b} ha hb hne e => hne ?_) h
  exact pre_eq (fit_pre a ha) (fit_pre b hb) e
theorem strict_eq : ∀ {l m : List (List Nat)}, l.Pairwise (fun a b => b.length < a.length) → m.Pairwise (fun a b => b.length < a.length) → (∀ x, x ∈ l ↔ x ∈ m) → l = m
  | [], [], _, _, _ => rfl
  | [], b :: m, _, _, h => absurd ((h b).mpr List.mem_cons_self) (by simp)
  | a :: l, [], _, _, h => absurd ((h a).mp List.mem_cons_self) (by simp)
  | a :: l, b :: m, hl, hm, h => by
    obtain ⟨l1, l2⟩ := List.pairwise_cons.mp hl
    obtain ⟨m1, m2⟩ := List.pairwise_cons.mp hm
    have hab : a = b := by
      rcases List.mem_cons.mp ((h a).mp List.mem_cons_self) with z | z
      · exact z
      · rcases List.mem_cons.mp ((h b).mpr List.mem_cons_self) with w | w
        · exact w.symm
        · have := m1 a z
          have := l1 b w
          omega
    subst hab
    rw [strict_eq l2 m2 fun x => ?_]
    constructor
    · intro hx
      rcases List.mem_cons.mp ((h x).mp (List.mem_cons_of_mem _ hx)) with z | z
      · have := l1 x hx; rw [z] at this; omega
      · exact z
    · intro hx
      rcases List.mem_cons.mp ((h x).mpr (List.mem_cons_of_mem _ hx)) with z | z
      · have := m1 x hx; rw [z] at this; omega
      · exact z
theorem sort_eq {l : List (List Nat)} (h : l.Pairwise fun a b => a.length ≠ b.length) : l.mergeSort (leLen true) = (l.mergeSort (leLen false)).reverse := by
  have p1 := List.mergeSort_perm l (leLen true)
  have p2 := List.mergeSort_perm l (leLen false)
  have s1 := List.pairwise_mergeSort (le := leLen true) le_tr le_tot l
  have s2 := List.pairwise_mergeSort (le := leLen false) le_tr le_tot l
  have n1 : (l.mergeSort (leLen true)).Pairwise fun a b => a.length ≠ b.length := (p1.pairwise_iff fun h e => h e.symm).mpr h
  have n2 : (l.mergeSort (leLen false)).Pairwise fun a b => a.length ≠ b.length := (p2.pairwise_iff fun h e => h e.symm).mpr h
  refine strict_eq ?_ ?_ fun x => ?_
  · exact (s1.and n1).imp fun {a b} ⟨h1, h2⟩ => by simp [leLen] at h1; omega
  · rw [List.pairwise_reverse]
    exact (s2.and n2).imp fun {a b} ⟨h1, h2⟩ => by simp [leLen] at h1; omega
  · rw [List.mem_reverse, List.mem_mergeSort, List.mem_mergeSort]
end Y
/-! standing, unfinished: mirrors (printed by gen.py) and what they answer -/
namespace Y
open PySem L2
def g_Frames_told : G Fl :=
 (sRet (gOf (nL fTuple (psCons (gCompP (pItems (gP (gFld 0 "doors" (vS 0)))) (gTo 1) tbYes (nSl fSl (gV 1) (oAt (cM (.dat (.int 1)))) oNo) [1]) psNil))))
def F_Frames_told : List M → Option Rr := ar 1 (defF 2 (some 0) g_Frames_told)
theorem ni_Frames_told (ms : List M) (o : Rr) (h : F_Frames_told ms = some o) : defF 2 (some 0) g_Frames_told ms = some o := ar_imp (fun _ _ h => h) ms o h
def g_standing : G Fl :=
 (gThen (sSetM 2 (gMake true 0 F_Frames___init__ (xCons (xE (gV 0)) xNil)))
 (gThen (sDrop (gCallS true 0 F_read_on (gHere 2 (xCons (xE (gV 1)) (xCons (gView (cM (.dat (.int 0)))) xNil)))))
 (sRet (gMeth true 0 "told" F_Frames_told (vS 2) pNil))))
def F_standing : List M → Option Rr := ar 2 (defF 3 none g_standing)
theorem ni_standing (ms : List M) (o : Rr) (h : F_standing ms = some o) : defF 3 none g_standing ms = some o := ar_imp (fun _ _ h => h) ms o h
def g_unfinished : G Fl :=
 (gThen (sSetM 2 (gMake true 0 F_Frames___init__ (xCons (xE (gV 0)) xNil)))
 (gThen (sSet 3 (xM (gCallS true 0 F_read_on (gHere 2 (xCons (xE (gV 1)) (xCons (gView (cM (.dat (.int 0)))) xNil))))))
 (gThen (sSetM 4 (gOf (nL fList (psCons (gP (gFld 0 "doors" (vS 2))) psNil))))
 (gThen (sIf (gOf (tbAnd (tB' (n2 fNe (gV 3) (nLst pNil))) (tB' (n2 fEq (n2 fIdx (n2 fIdx (gV 3) (n1 fNeg (cM (.dat (.int 1))))) (cM (.dat (.int 2)))) (cM (.dat (.str (sc "cut"))))))))
 (gApp (vS 4) (nTup (pCons (n2 fIdx (n2 fIdx (gV 3) (n1 fNeg (cM (.dat (.int 1))))) (cM (.dat (.int 0)))) (pCons (n2 fIdx (n2 fIdx (gV 3) (n1 fNeg (cM (.dat (.int 1))))) (cM (.dat (.int 3)))) (pCons (cM (.dat (.str (sc "")))) pNil)))))
 gSkip)
 (sRet (gTake 4))))))
def F_unfinished : List M → Option Rr := ar 2 (defF 5 none g_unfinished)
theorem ni_unfinished (ms : List M) (o : Rr) (h : F_unfinished ms = some o) : defF 5 none g_unfinished ms = some o := ar_imp (fun _ _ h => h) ms o h

def toT (d : D3) : D := .tup [.int d.2.1, .str d.2.2]
@[simp] theorem frO_told {bk : Bk} {l : M} : (∃ fs, frO bk l = .obj 0 fs ∧ lookM "told" fs = none) ↔ True := frO_m (by decide) (by decide)
theorem told_ok {bk : Bk} {ds : List D3} (hn : ds.length ≤ 90000) {Φ : M → Option M → Prop} (k : Φ (.dat (.tup (ds.map toT))) (some (frO bk (dls ds)))) : TF F_Frames_told [frO bk (dls ds)] Φ := by
  refine TF_B rfl ?_
  simp [g_Frames_told, start0]
  refine Tp_of (gLcP_all (h := toT) fun d hd => by simp [toD3, cutD_lo, toT]) ?_
  simp
  exact ⟨by omega, k⟩
/-- the end of a reading -/
def endL (l : List D) : List D := match l.getLast? with
  | some (.tup [p, _, .str w, to, _]) => if w = sc "cut" then [.tup [p, to, .str []]] else []
  | _ => []
theorem endL_nil : endL [] = [] := rfl
theorem endL_app {l : List D} {p many : Nat} {w : List Nat} {to dep : Int} : endL (l ++ [tupS p many w to dep]) = if w = sc "cut" then [.tup [.int p, .int to, .str []]] else [] := by simp [endL, tupS]
theorem runS_dok {bk : Bk} {t : List Nat} (hg : Good bk) : ∀ (n : Nat) (ds : List D3) (p : Nat), DOk bk ds p → p ≤ t.length → DOk bk (runS bk t n ds p).2 t.length ∧ DOr bk ds → DOr bk (runS bk t n ds p).2
  | 0, ds, p, h, hp => fun z => z.2
  | n + 1, ds, p, h, hp => fun z => by
    by_cases h1 : p < t.length
    · rw [runS_go h1] at z ⊢
      obtain ⟨q1, q2, q3⟩ := step_facts hg h h1
      exact runS_dok hg n _ _ q3 q2 ⟨z.1, dor_step hg h z.2⟩
    · rw [runS_end (by omega)]; exact z.2
theorem runS_d {bk : Bk} {t : List Nat} (hg : Good bk) : ∀ (n : Nat) (ds : List D3) (p : Nat), DOk bk ds p → p ≤ t.length → DOk bk (runS bk t n ds p).2 t.length
  | 0, ds, p, h, hp => ⟨h.r, h.c, Nat.le_trans h.n hp⟩
  | n + 1, ds, p, h, hp => by
    by_cases h1 : p < t.length
    · rw [runS_go h1]
      obtain ⟨q1, q2, q3⟩ := step_facts hg h h1
      exact runS_d hg n _ _ q3 q2
    · rw [runS_end (by omega)]; exact ⟨h.r, h.c, Nat.le_trans h.n hp⟩
theorem runS_n {bk : Bk} {t : List Nat} (hg : Good bk) : ∀ (n : Nat) (ds : List D3) (p : Nat), DOk bk ds p → p ≤ t.length → (runS bk t n ds p).1.length ≤ t.length - p
  | 0, ds, p, h, hp => by simp [runS]
  | n + 1, ds, p, h, hp => by
    by_cases h1 : p < t.length
    · rw [runS_go h1]
      obtain ⟨q1, q2, q3⟩ := step_facts hg h h1
      have := runS_n hg n _ _ q3 q2
      simp
      omega
    · rw [runS_end (by omega)]; simp
theorem dok0 {bk : Bk} : DOk bk [] 0 := ⟨by simp, by simp, by simp⟩
theorem standing_ok {bk : Bk} {t : List Nat} (hg : Good bk) (ht : TOk t) {Φ : M → Option M → Prop} (k : Φ (.dat (.tup ((runS bk t t.length [] 0).2.map toT))) none) : TF F_standing [.dat (toBk bk), .dat (.str t)] Φ := by
  refine TF_B rfl ?_
  simp [g_standing, start0]
  refine init_ok ?_
  simp
  refine read_on_ok hg ht fun _ => ?_
  simp
  have hd := runS_d (t := t) hg t.length [] 0 dok0 (Nat.zero_le _)
  exact told_ok (by have := hd.n; have := ht.l; omega) k
theorem unfinished_ok {bk : Bk} {t : List Nat} (hg : Good bk) (ht : TOk t) {Φ : M → Option M → Prop} (k : Φ (.lst (((runS bk t t.length [] 0).2.map toD3 ++ endL (runS bk t t.length [] 0).1).map M.dat)) none) : TF F_unfinished [.dat (toBk bk), .dat (.str t)] Φ := by
  have hd := runS_d (t := t) hg t.length [] 0 dok0 (Nat.zero_le _)
  have hsh := runS_shape (bk := bk) (t := t) t.length [] 0
  have htl := ht.l
  have hdn := hd.n
  refine TF_B rfl ?_
  simp [g_unfinished, start0]
  refine init_ok ?_
  simp
  refine read_on_ok hg ht fun hk => ?_
  have hk59 : ∀ x ∈ (runS bk t t.length [] 0).1, okE 59 x = true := fun x hx => okE_mono (by decide) (hk x hx)
  generalize (runS bk t t.length [] 0).2 = ds at *
  generalize (runS bk t t.length [] 0).1 = R at *
  simp
  refine ⟨hk59, ?_, ?_⟩
  · intro e
    rw [peqs_nil] at e
    rcases List.eq_nil_or_concat R with rfl | ⟨init, d, rfl⟩
    · simp at e
    · rw [List.concat_eq_append] at *
      obtain ⟨p, many, w, to, dep, rfl⟩ := hsh d (by simp)
      rw [endL_app] at k
      simp [tupS]
      refine ⟨fun e => ⟨by omega, ?_⟩, fun e => ?_⟩
      · rw [if_pos e] at k
        simpa using k
      · rw [if_neg e] at k
        simpa using k
  · intro e
    rw [peqs_nil] at e
    have : R = [] := by simpa using e
    subst this
    rw [endL_nil] at k
    simpa using k
end Y
/-! Y: more of what mirrors answer: and, or, not as values; methods with effects; data that hold frozen lists -/
namespace Y
open PySem L2
section
variable {ρ : Env} {Ψ : M → Prop}
@[simp] theorem Tp_nAnd {a b : Env → Option M} : Tp (nAnd a b ρ) Ψ ↔ Tp (a ρ) fun m => Tp (asDat m) fun d => Tp (asB d) fun x => (x = true → Tp (b ρ) Ψ) ∧ (x = false → Ψ (.dat (.bl false))) := by
  unfold nAnd
  cases a ρ with
  | none => simp
  | some m =>
    cases m <;> simp [asDat]
    rename_i d
    cases d <;> simp [asB]
    rename_i x
    cases x <;> simp
@[simp] theorem Tp_nOr {a b : Env → Option M} : Tp (nOr a b ρ) Ψ ↔ Tp (a ρ) fun m => Tp (asDat m) fun d => Tp (asB d) fun x => (x = true → Ψ (.dat (.bl true))) ∧ (x = false → Tp (b ρ) Ψ) := by
  unfold nOr
  cases a ρ with
  | none => simp
  | some m =>
    cases m <;> simp [asDat]
    rename_i d
    cases d <;> simp [asB]
    rename_i x
    cases x <;> simp
@[simp] theorem Tp_nNot {a : Env → Option M} : Tp (nNot a ρ) Ψ ↔ Tp (a ρ) fun m => Tp (asDat m) fun d => Tp (asB d) fun x => Ψ (.dat (.bl (!x))) := by
  unfold nNot
  cases a ρ with
  | none => simp
  | some m =>
    cases m <;> simp [asDat]
    rename_i d
    cases d <;> simp [asB]
end
@[simp] theorem T_xAnd {a b : G D} {ρ : Env} {Φ : D → Env → Prop} : T (xAnd a b) ρ Φ ↔ T a ρ fun d ρ1 => Tp (asB d) fun x => (x = true → T b ρ1 Φ) ∧ (x = false → Φ (.bl false) ρ1) := by
  unfold xAnd
  rw [T_bind]
  constructor <;> intro h <;> refine T.mono h fun d ρ1 q => ?_ <;> (cases d with
    | bl x => cases x <;> simp_all [asB]
    | _ => simp_all [T, asB])
@[simp] theorem T_xOr {a b : G D} {ρ : Env} {Φ : D → Env → Prop} : T (xOr a b) ρ Φ ↔ T a ρ fun d ρ1 => Tp (asB d) fun x => (x = true → Φ (.bl true) ρ1) ∧ (x = false → T b ρ1 Φ) := by
  unfold xOr
  rw [T_bind]
  constructor <;> intro h <;> refine T.mono h fun d ρ1 q => ?_ <;> (cases d with
    | bl x => cases x <;> simp_all [asB]
    | _ => simp_all [T, asB])
@[simp] theorem T_gMethS {C : Nat} {x : Str} {f : List M → Option Rr} {i : Nat} {gs : G (List D)} {ρ : Env} {Φ : M → Env → Prop} : T (gMethS true C x f i gs) ρ Φ ↔ Tp (getS ρ i) fun m0 => (∃ fs, m0 = .obj C fs ∧ lookM x fs = none) ∧ T gs ρ fun es ρ1 => Tp (getS ρ1 i) fun m => TF f (m :: es.map M.dat) fun r m' => Tp m' fun y => Φ r (ρ1.set i (some y)) := by
  have key : ∀ (es : List D) (ρ1 : Env), T (fun ρ1 => match getP ρ1 (.slot i) with
      | some m => gBack true ρ1 (.slot i) (f (m :: es.map M.dat))
      | none => none) ρ1 Φ ↔ Tp (getS ρ1 i) fun m => TF f (m :: es.map M.dat) fun r m' => Tp m' fun y => Φ r (ρ1.set i (some y)) := fun es ρ1 => by
    unfold T
    dsimp only
    simp only [getP_slot]
    cases getS ρ1 i with
    | none => simp
    | some m =>
      simp only [Tp_some]
      unfold TF
      cases f (m :: es.map M.dat) with
      | none => simp [gBack]
      | some r => cases r with
        | ok r m' => cases m' <;> simp [gBack, putP]
        | ex c m' => cases m' <;> simp [gBack]
  cases e : getS ρ i with
  | none =>
    have h : gMethS true C x f i gs ρ = none := by simp [gMethS, getP_slot, e]
    simp [T, h]
  | some m0 =>
    cases m0 with
    | obj C' fs =>
      by_cases hC : C' = C
      · subst hC
        cases e5 : lookM x fs with
        | some y =>
          have h : gMethS true C' x f i gs ρ = none := by simp [gMethS, getP_slot, e, e5]
          simp [T, h, e5]
        | none =>
          have h : gMethS true C' x f i gs ρ = gBind gs (fun es ρ1 => match getP ρ1 (.slot i) with
            | some m => gBack true ρ1 (.slot i) (f (m :: es.map M.dat))
            | none => none) ρ := by
            simp only [gMethS, getP_slot, e, e5, if_true]
            try rfl
          rw [T_congr h, T_bind]
          have hx : (∃ fs_1, M.obj C' fs = M.obj C' fs_1 ∧ lookM x fs_1 = none) ↔ True := ⟨fun _ => trivial, fun _ => ⟨fs, rfl, e5⟩⟩
          simp only [Tp_some, hx, true_and]
          constructor <;> intro q <;> refine T.mono q fun es ρ1 z => ?_
          · exact (key es ρ1).mp z
          · exact (key es ρ1).mpr z
      · have h : gMethS true C x f i gs ρ = none := by simp [gMethS, getP_slot, e, hC]
        simp [T, h, hC]
    | _ =>
      have h : gMethS true C x f i gs ρ = none := by simp [gMethS, getP_slot, e]
      simp [T, h]
@[simp] theorem T_xSl {f : M → Option Int → Option Int → Option M} {g : G D} {lo hi : Env → Option (Option Int)} {ρ : Env} {Φ : M → Env → Prop} : T (xSl f g lo hi) ρ Φ ↔ T g ρ fun d ρ1 => Tp (lo ρ1) fun l => Tp (hi ρ1) fun h => Tp (f (.dat d) l h) fun m => Φ m ρ1 := by
  unfold xSl
  rw [T_bind]
  constructor <;> intro h <;> refine T.mono h fun d ρ1 q => ?_ <;> unfold T at * <;> (try dsimp only at *) <;> (cases e1 : lo ρ1 with
    | none => simp_all
    | some l =>
      cases e2 : hi ρ1 with
      | none => simp_all
      | some h' => cases e3 : f (.dat d) l h' <;> simp_all [gOpt])
@[simp] theorem peq_int {i j : Int} : peq (.int i) (.int j) = (i == j) := by simp [peq]
@[simp] theorem peq_str {i j : List Nat} : peq (.str i) (.str j) = (i == j) := by simp [peq]
/-- a door of its open alone -/
theorem filter_one {l : List Dr} (h : (l.map (·.1)).Nodup) {d : Dr} (hd : d ∈ l) : l.filter (fun e => e.1 == d.1) = [d] := by
  induction l with
  | nil => simp at hd
  | cons x l ih =>
    simp only [List.map_cons, List.nodup_cons] at h
    rcases List.mem_cons.mp hd with rfl | hd
    · have : l.filter (fun e => e.1 == d.1) = [] := by
        refine List.filter_eq_nil_iff.mpr fun e he => ?_
        intro z
        exact h.1 (List.mem_map.mpr ⟨e, he, by simpa using z⟩)
      simp [this]
    · have hx : (x.1 == d.1) = false := by
        rw [beq_eq_false_iff_ne]
        intro e
        exact h.1 (List.mem_map.mpr ⟨d, hd, e.symm⟩)
      rw [List.filter_cons, hx]
      exact ih h.2 hd
theorem opens_nodup {bk : Bk} (hg : Good bk) {r : Row} (hr : r ∈ bk) : (r.2.map (·.1)).Nodup := by
  have := apart_nodup (l := (r.2.map (·.1)).reverse) (by rw [(hg.f _ hr).u]; simp)
  unfold List.Nodup at this ⊢
  rw [List.pairwise_reverse] at this
  exact this.imp fun h e => h e.symm
end Y
/-! what is sure by a first part; readings that go on from one place to another -/
namespace Y
open PySem L2
theorem stepS_word {bk : Bk} {ds : List D3} {t : List Nat} {p : Nat} : ∃ to dep, (stepS bk ds t p).1.1 = tupS p (stepS bk ds t p).1.2 (wordS bk ds t p) to dep := by
  unfold stepS wordS
  split
  · split <;> exact ⟨_, _, rfl⟩
  · split
    · exact ⟨_, _, rfl⟩
    · split <;> exact ⟨_, _, rfl⟩
theorem wordS_chars {bk : Bk} {ds : List D3} {t : List Nat} {p : Nat} : ∀ x ∈ wordS bk ds t p, x < 1114112 := by
  obtain ⟨h1, h2, h3, h4, h5⟩ := sc_ok
  unfold wordS
  split
  · split <;> assumption
  · split
    · assumption
    · split <;> assumption
theorem wd_ne2 : sc "cut" ≠ sc "escape" ∧ sc "sign" ≠ sc "cut" ∧ sc "sign" ≠ sc "escape" ∧ sc "close" ≠ sc "cut" ∧ sc "close" ≠ sc "escape" ∧ sc "open" ≠ sc "cut" ∧ sc "open" ≠ sc "escape" ∧ sc "sign" ≠ sc "open" ∧ sc "sign" ≠ sc "close" ∧ sc "open" ≠ sc "close" ∧ sc "cut" ≠ sc "open" ∧ sc "cut" ≠ sc "close" ∧ sc "escape" ≠ sc "open" ∧ sc "escape" ≠ sc "close" ∧ sc "cut" ≠ sc "sign" ∧ sc "escape" ≠ sc "sign" := by decide +kernel
/-- the five kinds of a step -/
inductive Kd (bk : Bk) (ds : List D3) (t : List Nat) (p : Nat) : Prop
  | cut (e : (rowAt bk (tg ds)).1 ≠ [] ∧ t[p]?.toList = (rowAt bk (tg ds)).1) (l : p + 1 = t.length) (s : stepS bk ds t p = ((tupS p 1 (sc "cut") (tg ds) ds.length, 1), ds)) (w : wordS bk ds t p = sc "cut")
  | esc (e : (rowAt bk (tg ds)).1 ≠ [] ∧ t[p]?.toList = (rowAt bk (tg ds)).1) (l : ¬ p + 1 = t.length) (s : stepS bk ds t p = ((tupS p 2 (sc "escape") (tg ds) ds.length, 2), ds)) (w : wordS bk ds t p = sc "escape")
  | sign (e : ¬((rowAt bk (tg ds)).1 ≠ [] ∧ t[p]?.toList = (rowAt bk (tg ds)).1)) (b : best (fitL bk ds t p) = []) (s : stepS bk ds t p = ((tupS p 1 (sc "sign") (tg ds) ds.length, 1), ds)) (w : wordS bk ds t p = sc "sign")
  | close (e : ¬((rowAt bk (tg ds)).1 ≠ [] ∧ t[p]?.toList = (rowAt bk (tg ds)).1)) (b : best (fitL bk ds t p) ≠ []) (c : cl? ds = some (best (fitL bk ds t p))) (s : stepS bk ds t p = ((tupS p (best (fitL bk ds t p)).length (sc "close") (tg ds.dropLast) (ds.length - 1), (best (fitL bk ds t p)).length), ds.dropLast)) (w : wordS bk ds t p = sc "close")
  | op (e : ¬((rowAt bk (tg ds)).1 ≠ [] ∧ t[p]?.toList = (rowAt bk (tg ds)).1)) (b : best (fitL bk ds t p) ≠ []) (c : cl? ds ≠ some (best (fitL bk ds t p))) (s : stepS bk ds t p = ((tupS p (best (fitL bk ds t p)).length (sc "open") (tg ds) ds.length, (best (fitL bk ds t p)).length), ds ++ [(p, (doorOf bk (tg ds) (best (fitL bk ds t p))).2)])) (w : wordS bk ds t p = sc "open")
theorem kd (bk : Bk) (ds : List D3) (t : List Nat) (p : Nat) : Kd bk ds t p := by
  by_cases e : (rowAt bk (tg ds)).1 ≠ [] ∧ t[p]?.toList = (rowAt bk (tg ds)).1
  · by_cases l : p + 1 = t.length
    · exact .cut e l (by unfold stepS; rw [if_pos e, if_pos l]) (by unfold wordS; rw [if_pos e, if_pos l])
    · exact .esc e l (by unfold stepS; rw [if_pos e, if_neg l]) (by unfold wordS; rw [if_pos e, if_neg l])
  · by_cases b : best (fitL bk ds t p) = []
    · exact .sign e b (by unfold stepS; rw [if_neg e, if_pos b]) (by unfold wordS; rw [if_neg e, if_pos b])
    · by_cases c : cl? ds = some (best (fitL bk ds t p))
      · exact .close e b c (by unfold stepS; rw [if_neg e, if_neg b, if_pos c]) (by unfold wordS; rw [if_neg e, if_neg b, if_pos c])
      · exact .op e b c (by unfold stepS; rw [if_neg e, if_neg b, if_neg c]) (by unfold wordS; rw [if_neg e, if_neg b, if_neg c])
/-- whether a step is sure by a first part -/
def sureS (bk : Bk) (ds : List D3) (t : List Nat) (p : Nat) : Bool :=
  if wordS bk ds t p = sc "cut" then false else if wordS bk ds t p = sc "escape" then true
  else (cands bk ds).all fun m => !(decide ((stepS bk ds t p).1.2 < m.length) && decide (t.length - p < m.length) && (t.drop p).isPrefixOf m)
theorem fit_app {bk : Bk} {ds : List D3} {t : List Nat} {p : Nat} (hp : p ≤ t.length) {many : Nat} (hm : many ≤ t.length - p)
    (h : ∀ m ∈ cands bk ds, ¬(many < m.length ∧ t.length - p < m.length ∧ (t.drop p) <+: m)) (u : List Nat) : fitL bk ds (t ++ u) p = fitL bk ds t p := by
  unfold fitL
  refine List.filter_congr fun m hmc => ?_
  rw [List.drop_append_of_le_length hp]
  have hl : (t.drop p).length = t.length - p := List.length_drop
  rw [Bool.eq_iff_iff, List.isPrefixOf_iff_prefix, List.isPrefixOf_iff_prefix]
  constructor
  · intro z
    by_cases hc : m.length ≤ t.length - p
    · exact List.prefix_of_prefix_length_le z (List.prefix_append _ _) (by omega)
    · exfalso
      refine h m hmc ⟨by omega, by omega, List.prefix_of_prefix_length_le (List.prefix_append _ _) z (by omega)⟩
  · intro z
    exact z.trans (List.prefix_append _ _)
theorem sure_all {bk : Bk} {ds : List D3} {t : List Nat} {p : Nat} (h : sureS bk ds t p = true) (h1 : wordS bk ds t p ≠ sc "escape") : ∀ m ∈ cands bk ds, ¬((stepS bk ds t p).1.2 < m.length ∧ t.length - p < m.length ∧ (t.drop p) <+: m) := by
  unfold sureS at h
  split at h
  · cases h
  · intro m hm ⟨z1, z2, z3⟩
    have := List.all_eq_true.mp h m hm
    rw [← List.isPrefixOf_iff_prefix] at z3
    simp [z1, z2, z3] at this
theorem sure_of {bk : Bk} {ds : List D3} {t : List Nat} {p : Nat} (h0 : wordS bk ds t p ≠ sc "cut") (h : wordS bk ds t p = sc "escape" ∨ ∀ m ∈ cands bk ds, ¬((stepS bk ds t p).1.2 < m.length ∧ t.length - p < m.length ∧ (t.drop p) <+: m)) : sureS bk ds t p = true := by
  unfold sureS
  rw [if_neg h0]
  split
  · rfl
  · rename_i h1
    have h := h.resolve_left h1
    refine List.all_eq_true.mpr fun m hm => ?_
    have := h m hm
    rw [← List.isPrefixOf_iff_prefix] at this
    cases e : (decide ((stepS bk ds t p).1.2 < m.length) && decide (t.length - p < m.length) && (t.drop p).isPrefixOf m) with
    | false => rfl
    | true =>
      simp only [Bool.and_eq_true, decide_eq_true_eq] at e
      exact absurd ⟨e.1.1, e.1.2, e.2⟩ this
/-- a sure step is the same whatever comes behind -/
theorem sure_ext {bk : Bk} {ds : List D3} {t : List Nat} {p : Nat} (hp : p < t.length) (h : sureS bk ds t p = true) (u : List Nat) : stepS bk ds (t ++ u) p = stepS bk ds t p ∧ wordS bk ds (t ++ u) p = wordS bk ds t p ∧ sureS bk ds (t ++ u) p = true := by
  have ech : (t ++ u)[p]? = t[p]? := List.getElem?_append_left hp
  obtain ⟨w1, w2, w3, w4, w5, w6, w7, _⟩ := wd_ne2
  have hb := best_len (bk := bk) (ds := ds) (t := t) (p := p) (Nat.le_of_lt hp)
  have key : stepS bk ds (t ++ u) p = stepS bk ds t p ∧ wordS bk ds (t ++ u) p = wordS bk ds t p := by
    rcases kd bk ds t p with ⟨e, l, s, w⟩ | ⟨e, l, s, w⟩ | ⟨e, b, s, w⟩ | ⟨e, b, c, s, w⟩ | ⟨e, b, c, s, w⟩
    · unfold sureS at h
      rw [if_pos w] at h
      cases h
    · have l2 : ¬ p + 1 = (t ++ u).length := by rw [List.length_append]; omega
      rw [s, w]
      unfold stepS wordS
      rw [ech, if_pos e, if_pos e, if_neg l2, if_neg l2]
      exact ⟨rfl, rfl⟩
    all_goals
      have hs := sure_all h (by rw [w]; assumption)
      have hf := fit_app (Nat.le_of_lt hp) (by rw [s]; dsimp only; omega) hs u
      have : stepS bk ds (t ++ u) p = stepS bk ds t p := by
        unfold stepS
        rw [ech, if_neg e, if_neg e, hf]
      refine ⟨this, ?_⟩
      unfold wordS
      rw [ech, if_neg e, if_neg e, hf]
  refine ⟨key.1, key.2, sure_of (by rw [key.2]; intro z; unfold sureS at h; rw [if_pos z] at h; cases h) ?_⟩
  rw [key.1, key.2]
  by_cases he : wordS bk ds t p = sc "escape"
  · exact .inl he
  · refine .inr fun m hm ⟨z1, z2, z3⟩ => ?_
    refine sure_all h he m hm ⟨z1, ?_, ?_⟩
    · rw [List.length_append] at z2; omega
    · rw [List.drop_append_of_le_length (Nat.le_of_lt hp)] at z3
      exact (List.prefix_append _ _).trans z3
/-- what the steps from the first sign on can come to -/
inductive Reach (bk : Bk) (t : List Nat) : List D3 → List D → Nat → Prop
  | zero : Reach bk t [] [] 0
  | go {ds : List D3} {acc : List D} {p : Nat} : Reach bk t ds acc p → p < t.length → Reach bk t (stepS bk ds t p).2 (acc ++ [(stepS bk ds t p).1.1]) (p + (stepS bk ds t p).1.2)
inductive SReach (bk : Bk) (t : List Nat) : List D3 → List D → Nat → Prop
  | zero : SReach bk t [] [] 0
  | go {ds : List D3} {acc : List D} {p : Nat} : SReach bk t ds acc p → p < t.length → sureS bk ds t p = true → SReach bk t (stepS bk ds t p).2 (acc ++ [(stepS bk ds t p).1.1]) (p + (stepS bk ds t p).1.2)
section
variable {bk : Bk} {t : List Nat} {ds ds' : List D3} {acc acc' : List D} {p p' : Nat}
theorem SReach.reach (h : SReach bk t ds acc p) : Reach bk t ds acc p := by
  induction h with
  | zero => exact .zero
  | go _ h1 _ ih => exact .go ih h1
theorem Reach.run (hg : Good bk) (h : Reach bk t ds acc p) : Run bk t ds acc p := by
  induction h with
  | zero => exact run0
  | go _ h1 ih => exact run_go hg ih h1
theorem Reach.dor (hg : Good bk) (h : Reach bk t ds acc p) : DOr bk ds := by
  induction h with
  | zero => exact dor_nil
  | go h0 h1 ih => exact dor_step hg (h0.run hg).d ih
theorem Reach.all (hg : Good bk) : ∀ (n : Nat) {ds : List D3} {acc : List D} {p : Nat}, Reach bk t ds acc p → t.length - p ≤ n → Reach bk t (runS bk t n ds p).2 (acc ++ (runS bk t n ds p).1) t.length
  | 0, ds, acc, p, h, hn => by
    have := (h.run hg).q
    have e : p = t.length := by omega
    subst e
    simpa [runS] using h
  | n + 1, ds, acc, p, h, hn => by
    by_cases hp : p < t.length
    · rw [runS_go hp]
      have h1 := (step_facts hg (h.run hg).d hp).1
      have := Reach.all hg n (h.go hp) (by omega)
      rw [List.append_assoc] at this
      exact this
    · have := (h.run hg).q
      have e : p = t.length := by omega
      rw [runS_end (by omega)]
      subst e
      simpa using h
theorem reach_all (hg : Good bk) : Reach bk t (runS bk t t.length [] 0).2 (runS bk t t.length [] 0).1 t.length := by
  have := Reach.all (t := t) hg t.length .zero (by omega)
  simpa using this
theorem Reach.whole (hg : Good bk) (h : Reach bk t ds acc t.length) : acc = (runS bk t t.length [] 0).1 ∧ ds = (runS bk t t.length [] 0).2 := run_end (h.run hg) (by omega)
theorem SReach.ext (hg : Good bk) (u : List Nat) (h : SReach bk t ds acc p) : SReach bk (t ++ u) ds acc p := by
  induction h with
  | zero => exact .zero
  | go h0 h1 h2 ih =>
    obtain ⟨e1, e2, e3⟩ := sure_ext h1 h2 u
    have := ih.go (by rw [List.length_append]; omega) e3
    rw [e1] at this
    exact this
theorem SReach.det (h : SReach bk t ds acc p) : ∀ {ds' : List D3} {acc' : List D} {p' : Nat}, SReach bk t ds' acc' p' → acc.length = acc'.length → ds = ds' ∧ acc = acc' ∧ p = p' := by
  induction h with
  | zero =>
    intro ds' acc' p' h' e
    cases h' with
    | zero => exact ⟨rfl, rfl, rfl⟩
    | go => simp at e
  | go h0 h1 h2 ih =>
    intro ds' acc' p' h' e
    cases h' with
    | zero => simp at e
    | go g0 g1 g2 =>
      obtain ⟨rfl, rfl, rfl⟩ := ih g0 (by simpa using e)
      exact ⟨rfl, rfl, rfl⟩
theorem Reach.det (h : Reach bk t ds acc p) : ∀ {ds' : List D3} {acc' : List D} {p' : Nat}, Reach bk t ds' acc' p' → acc.length = acc'.length → ds = ds' ∧ acc = acc' ∧ p = p' := by
  induction h with
  | zero =>
    intro ds' acc' p' h' e
    cases h' with
    | zero => exact ⟨rfl, rfl, rfl⟩
    | go => simp at e
  | go h0 h1 ih =>
    intro ds' acc' p' h' e
    cases h' with
    | zero => simp at e
    | go g0 g1 =>
      obtain ⟨rfl, rfl, rfl⟩ := ih g0 (by simpa using e)
      exact ⟨rfl, rfl, rfl⟩
/-- one step among those told -/
theorem Reach.mid (h : Reach bk t ds acc p) : ∀ {pre suf : List D} {x : D}, acc = pre ++ x :: suf → ∃ ds1 p1, Reach bk t ds1 pre p1 ∧ p1 < t.length ∧ x = (stepS bk ds1 t p1).1.1 := by
  induction h with
  | zero => intro pre suf x e; simp at e
  | go h0 h1 ih =>
    intro pre suf x e
    rcases List.eq_nil_or_concat suf with rfl | ⟨s2, y, rfl⟩
    · obtain ⟨rfl, e2⟩ := List.append_inj' e rfl
      exact ⟨_, _, h0, h1, (List.cons.inj e2).1.symm⟩
    · rw [List.concat_eq_append, ← List.cons_append, ← List.append_assoc] at e
      obtain ⟨e1, _⟩ := List.append_inj' e rfl
      exact ih e1
/-- no further step is sure -/
def Stuck (bk : Bk) (t : List Nat) (ds : List D3) (p : Nat) : Prop := ¬(p < t.length ∧ sureS bk ds t p = true)
theorem SReach.most (h : SReach bk t ds acc p) (hs : Stuck bk t ds p) (h' : SReach bk t ds' acc' p') : acc'.length ≤ acc.length := by
  induction h' with
  | zero => simp
  | go g0 g1 g2 ih =>
    rename_i ds1 acc1 p1
    rcases Nat.lt_or_ge acc1.length acc.length with z | z
    · simp; omega
    · obtain ⟨rfl, rfl, rfl⟩ := h.det g0 (by omega)
      exact absurd ⟨g1, g2⟩ hs
theorem SReach.stuck (h : SReach bk t ds acc p) (hs : Stuck bk t ds p) (h' : SReach bk t ds' acc' p') (hs' : Stuck bk t ds' p') : ds = ds' ∧ acc = acc' ∧ p = p' :=
  h.det h' (Nat.le_antisymm (h'.most hs' h) (h.most hs h'))
/-- how many signs a step has -/
def manyD : D → Int
  | .tup [_, .int m, _, _, _] => m
  | _ => 0
theorem manyD_tup {p many : Nat} {w : List Nat} {to dep : Int} : manyD (tupS p many w to dep) = many := rfl
theorem Reach.many (h : Reach bk t ds acc p) : (acc.map manyD).sum = p := by
  induction h with
  | zero => rfl
  | go h0 h1 ih =>
    obtain ⟨to, dep, e⟩ := stepS_word (bk := bk) (ds := ‹List D3›) (t := t) (p := ‹Nat›)
    rw [List.map_append, List.sum_append, ih, e]
    simp [manyD_tup]
theorem Reach.shape (h : Reach bk t ds acc p) : ∀ x ∈ acc, ∃ p many w to dep, x = tupS p many w to dep := by
  induction h with
  | zero => simp
  | go h0 h1 ih =>
    intro x hx
    rcases List.mem_append.mp hx with z | z
    · exact ih x z
    · obtain ⟨w, to, dep, e, _⟩ := step_shape (bk := bk) (ds := ‹List D3›) (t := t) (p := ‹Nat›)
      exact ⟨_, _, _, _, _, (List.mem_singleton.mp z).trans e⟩
theorem Reach.pre (hg : Good bk) (h : Reach bk t ds acc p) : ∃ l, (runS bk t t.length [] 0).1 = acc ++ l := by
  obtain ⟨f, _, e, _⟩ := (h.run hg).r
  exact ⟨_, e.symm⟩
end
end Y
/-! readers: mirrors (printed by gen.py), and what they answer -/
namespace Y
open PySem L2
def g_Frames_is_sure : G Fl :=
 (gThen (sSetT (gToTup 2 (gToCons (gTo 3) (gToCons (gTo 4) gToNil))) (xM (gMeth true 0 "step" F_Frames_step (vS 0) (pCons (gV 1) (pCons (gV 2) pNil)))))
 (gThen (sIf (gOf (tB' (n2 fInT (gV 4) (nTup (pCons (cM (.dat (.str (sc "escape")))) (pCons (cM (.dat (.str (sc "cut")))) pNil))))))
 (sRet (gOf (n2 fEq (gV 4) (cM (.dat (.str (sc "escape")))))))
 gSkip)
 (gThen (sSet 5 (gView (nSl fSl (gV 1) (oAt (gV 2)) (oAt (n2 fAdd (gV 2) (cM (.dat (.int 4))))))))
 (gThen (sSetM 6 (gComp (xItems (xM (x2 fIdx (xM (x2 fIdx (xE (gP (gFld 0 "book" (vS 0)))) (xM (gMeth true 0 "tongue" F_Frames_tongue (vS 0) pNil)))) (gView (cM (.dat (.int 1))))))) (gTo 7) tYesX (gView (n2 fIdx (gV 7) (cM (.dat (.int 0))))) [7]))
 (gThen (sIf (tX (xM (x2 fNotN (xM (gMeth true 0 "close" F_Frames_close (vS 0) pNil)) (gView (cM (.dat .non))))))
 (gAppS 6 (xM (gMeth true 0 "close" F_Frames_close (vS 0) pNil)))
 gSkip)
 (gThen (sIf (gOf (tB' (n2 fLt (n2 fAdd (gV 2) (nL fLen (psCons (gV 5) psNil))) (nL fLen (psCons (gV 1) psNil)))))
 (sRet (gOf (cM (.dat (.bl true)))))
 gSkip)
 (sRet (gOf (n2 fEq (gCompP (pItems (gV 6)) (gTo 8) (tbAnd (tB' (n2 fGt (nL fLen (psCons (gV 8) psNil)) (nL fMax2 (psCons (gV 3) (psCons (nL fLen (psCons (gV 5) psNil)) psNil))))) (tB' (nM1 fStarts (gV 8) (gV 5)))) (gV 8) [8]) (nLst pNil))))))))))
def F_Frames_is_sure : List M → Option Rr := ar 3 (defF 9 (some 0) g_Frames_is_sure)
theorem ni_Frames_is_sure (ms : List M) (o : Rr) (h : F_Frames_is_sure ms = some o) : defF 9 (some 0) g_Frames_is_sure ms = some o := ar_imp (fun _ _ h => h) ms o h

def g_Reader_begin : G Fl :=
 (gThen (gFSet 1 "frames" (gMake true 0 F_Frames___init__ (xCons (xE (gP (gFld 1 "book" (vS 0)))) xNil)) (vS 0))
 (gThen (gFSet 1 "whole" (gOf (cM (.dat (.str (sc ""))))) (vS 0))
 (gFSet 1 "place" (gOf (cM (.dat (.int 0)))) (vS 0))))
def F_Reader_begin : List M → Option Rr := ar 1 (defF 1 (some 0) g_Reader_begin)
theorem ni_Reader_begin (ms : List M) (o : Rr) (h : F_Reader_begin ms = some o) : defF 1 (some 0) g_Reader_begin ms = some o := ar_imp (fun _ _ h => h) ms o h

def g_Reader___init__ : G Fl :=
 (gThen (gFSet 1 "book" (mE (xE (gV 1))) (vS 0))
 (sDrop (gMeth true 1 "begin" F_Reader_begin (vS 0) pNil)))
def F_Reader___init__ : List M → Option Rr := ar 2 (defF 2 (some 0) g_Reader___init__)
theorem ni_Reader___init__ (ms : List M) (o : Rr) (h : F_Reader___init__ ms = some o) : defF 2 (some 0) g_Reader___init__ ms = some o := ar_imp (fun _ _ h => h) ms o h

def g_Reader_feed : G Fl :=
 (gThen (gFSet 1 "whole" (gOf (n2 fAdd (gP (gFld 1 "whole" (vS 0))) (gV 1))) (vS 0))
 (gThen (sSetM 2 (gOf (nLst pNil)))
 (gThen (gWhile (tAndX (gOf (tB' (n2 fLt (gP (gFld 1 "place" (vS 0))) (nL fLen (psCons (gP (gFld 1 "whole" (vS 0))) psNil))))) (tX (xM (gMeth true 0 "is_sure" F_Frames_is_sure (gFld 1 "frames" (vS 0)) (pCons (gP (gFld 1 "whole" (vS 0))) (pCons (gP (gFld 1 "place" (vS 0))) pNil))))))
 (gThen (sSetT (gToTup 2 (gToCons (gTo 3) (gToCons (gTo 4) gToNil))) (xM (gMeth true 0 "step" F_Frames_step (gFld 1 "frames" (vS 0)) (pCons (gP (gFld 1 "whole" (vS 0))) (pCons (gP (gFld 1 "place" (vS 0))) pNil)))))
 (gThen (gAppS 2 (xM (gMeth true 0 "do" F_Frames_do (gFld 1 "frames" (vS 0)) (pCons (gP (gFld 1 "whole" (vS 0))) (pCons (gP (gFld 1 "place" (vS 0))) (pCons (gV 3) (pCons (gV 4) pNil)))))))
 (gFAug 1 "place" (fun i j => i + j) (vS 0) (gV 3)))) 1000000)
 (sRet (gTake 2)))))
def F_Reader_feed : List M → Option Rr := ar 2 (defF 5 (some 0) g_Reader_feed)
theorem ni_Reader_feed (ms : List M) (o : Rr) (h : F_Reader_feed ms = some o) : defF 5 (some 0) g_Reader_feed ms = some o := ar_imp (fun _ _ h => h) ms o h

def g_Reader_finish : G Fl :=
 (gThen (sSet 1 (xM (gCallP true 0 F_read_on (pHere (gFld 1 "frames" (vS 0)) (pCons (gP (gFld 1 "whole" (vS 0))) (pCons (gP (gFld 1 "place" (vS 0))) pNil))))))
 (gThen (sDrop (gMeth true 1 "begin" F_Reader_begin (vS 0) pNil))
 (sRet (mE (xE (gV 1))))))
def F_Reader_finish : List M → Option Rr := ar 1 (defF 2 (some 0) g_Reader_finish)
theorem ni_Reader_finish (ms : List M) (o : Rr) (h : F_Reader_finish ms = some o) : defF 2 (some 0) g_Reader_finish ms = some o := ar_imp (fun _ _ h => h) ms o h

def g_Reader_standing : G Fl :=
 (sRet (gMeth true 0 "told" F_Frames_told (gFld 1 "frames" (vS 0)) pNil))
def F_Reader_standing : List M → Option Rr := ar 1 (defF 1 (some 0) g_Reader_standing)
theorem ni_Reader_standing (ms : List M) (o : Rr) (h : F_Reader_standing ms = some o) : defF 1 (some 0) g_Reader_standing ms = some o := ar_imp (fun _ _ h => h) ms o h

def g_Reader_held : G Fl :=
 (sRet (gOf (n2 fSub (nL fLen (psCons (gP (gFld 1 "whole" (vS 0))) psNil)) (gP (gFld 1 "place" (vS 0))))))
def F_Reader_held : List M → Option Rr := ar 1 (defF 1 (some 0) g_Reader_held)
theorem ni_Reader_held (ms : List M) (o : Rr) (h : F_Reader_held ms = some o) : defF 1 (some 0) g_Reader_held ms = some o := ar_imp (fun _ _ h => h) ms o h

def g_law_standing : G Fl :=
 (gThen (sSetM 3 (gOf (nLst pNil)))
 (gThen (sFor (xItems (xE (gV 1))) (gToTup 5 (gToCons (gTo 4) (gToCons (gTo 5) (gToCons (gTo 6) (gToCons (gTo 7) (gToCons (gTo 8) gToNil))))))
 (gThen (sIf (gOf (tB' (n2 fEq (gV 6) (cM (.dat (.str (sc "open")))))))
 (gThen (sSet 9 (gView (n2 fIdx (gCompP (pItems (n2 fIdx (n2 fIdx (gV 0) (gV 7)) (cM (.dat (.int 1))))) (gTo 10) (tB' (n2 fEq (n2 fIdx (gV 10) (cM (.dat (.int 0)))) (nSl fSl (gV 2) (oAt (gV 4)) (oAt (n2 fAdd (gV 4) (gV 5)))))) (gV 10) [10]) (cM (.dat (.int 0))))))
 (gApp (vS 3) (nSl fSl (gV 9) (oAt (cM (.dat (.int 1)))) oNo)))
 gSkip)
 (sIf (gOf (tB' (n2 fEq (gV 6) (cM (.dat (.str (sc "close")))))))
 (sDrop (gPop (vS 3)))
 gSkip)))
 (sRet (gOf (nL fTuple (psCons (gV 3) psNil))))))
def F_law_standing : List M → Option Rr := ar 3 (defF 11 none g_law_standing)
theorem ni_law_standing (ms : List M) (o : Rr) (h : F_law_standing ms = some o) : defF 11 none g_law_standing ms = some o := ar_imp (fun _ _ h => h) ms o h

@[simp] theorem Tp_pHere {pf : Env → Option Pth} {r : Env → Option (List D)} {ρ : Env} {Ψ : List D × Pth × List D → Prop} : Tp (pHere pf r ρ) Ψ ↔ Tp (pf ρ) fun p => Tp (r ρ) fun es => Ψ ([], p, es) := by
  unfold pHere
  cases pf ρ <;> cases r ρ <;> simp
@[simp] theorem Tp_pNext {g : Env → Option M} {r : Env → Option (List D × Pth × List D)} {ρ : Env} {Ψ : List D × Pth × List D → Prop} : Tp (pNext g r ρ) Ψ ↔ Tp (g ρ) fun m => Tp (asDat m) fun d => Tp (r ρ) fun q => Ψ (d :: q.1, q.2.1, q.2.2) := by
  unfold pNext
  cases g ρ with
  | none => simp
  | some m =>
    cases m <;> simp [asDat]
    cases r ρ <;> simp
@[simp] theorem T_gCallP {j : Nat} {f : List M → Option Rr} {gs : Env → Option (List D × Pth × List D)} {ρ : Env} {Φ : M → Env → Prop} : T (gCallP true j f gs) ρ Φ ↔ Tp (gs ρ) fun p => p.1.length = j ∧ Tp (getP ρ p.2.1) fun m => TF f (p.1.map M.dat ++ m :: p.2.2.map M.dat) fun r m' => Tp m' fun y => Φ r (putP ρ p.2.1 y) := by
  unfold gCallP T
  dsimp only
  cases gs ρ with
  | none => simp
  | some p =>
    simp only [Tp_some]
    by_cases h : p.1.length = j
    · simp only [h, if_true, true_and]
      cases getP ρ p.2.1 with
      | none => simp
      | some m =>
        simp only [Tp_some]
        unfold TF
        cases f (p.1.map M.dat ++ m :: p.2.2.map M.dat) with
        | none => simp [gBack]
        | some r => cases r with
          | ok r m' => cases m' <;> simp [gBack]
          | ex c m' => cases m' <;> simp [gBack]
    · simp [h]
@[simp] theorem fInT_two' {w a b : List Nat} : fInT (.dat (.str w)) (.dat (.tup [.str a, .str b])) = some (.dat (.bl (a == w || b == w))) := by simp [fInT, scal, peq]
theorem T_gLc_map {α : Type} {f : α → D} {h : α → D} {st : D → G Unit} {tt : G Bool} {ge : G D} {vs : List Nat} {ρ : Env} : ∀ {xs : List α} {acc : List D} {Φ : List D → Env → Prop}, (∀ x ∈ xs, T (st (f x)) ρ fun _ ρ1 => T tt ρ1 fun b ρ2 => b = true ∧ T ge ρ2 fun y ρ3 => y = h x ∧ wipeE ρ3 vs = ρ) → Φ (acc ++ xs.map h) ρ → T (gLc st tt ge vs (xs.map f) acc) ρ Φ
  | [], acc, Φ, _, k => by simpa [gLc] using k
  | x :: xs, acc, Φ, q, k => by
    show T (gBind (gCalm (st (f x))) fun _ => gBind (gCalm tt) fun b => bif b then gBind (gCalm ge) fun y => fun ρ => gLc st tt ge vs (xs.map f) (acc ++ [y]) (wipeE ρ vs) else fun ρ => gLc st tt ge vs (xs.map f) acc (wipeE ρ vs)) ρ Φ
    rw [T_bind, T_calm]
    refine T.mono (q x List.mem_cons_self) fun _ ρ1 z => ?_
    rw [T_bind, T_calm]
    refine T.mono z fun b ρ2 ⟨e, w⟩ => ?_
    subst e
    rw [cond_true, T_bind, T_calm]
    refine T.mono w fun y ρ3 ⟨e1, e2⟩ => ?_
    subst e1
    show T (gLc st tt ge vs (xs.map f) (acc ++ [h x])) (wipeE ρ3 vs) Φ
    rw [e2]
    exact T_gLc_map (fun y hy => q y (List.mem_cons_of_mem _ hy)) (by simpa using k)
/-- a reader that was told t, and has told the steps ahead of p -/
def rdO (bk : Bk) (ds : List D3) (t : List Nat) (p : Nat) : M := .obj 1 [("book", .dat (toBk bk)), ("frames", frO bk (dls ds)), ("whole", .dat (.str t)), ("place", .dat (.int p))]
section
variable {bk : Bk} {ds ds' : List D3} {t t' : List Nat} {p p' : Nat} {m : M}
theorem nmR : (("frames" : Str) = "book") = False ∧ (("whole" : Str) = "book") = False ∧ (("whole" : Str) = "frames") = False ∧ (("place" : Str) = "book") = False ∧ (("place" : Str) = "frames") = False ∧ (("place" : Str) = "whole") = False := by decide
theorem nmR' : (("book" : Str) = "frames") = False ∧ (("book" : Str) = "whole") = False ∧ (("frames" : Str) = "whole") = False ∧ (("book" : Str) = "place") = False ∧ (("frames" : Str) = "place") = False ∧ (("whole" : Str) = "place") = False := by decide
@[simp] theorem rdO_book : stepM (rdO bk ds t p) "book" = some (.dat (toBk bk)) := by simp [rdO]
@[simp] theorem rdO_frames : stepM (rdO bk ds t p) "frames" = some (frO bk (dls ds)) := by simp [rdO, nmR]
@[simp] theorem rdO_whole : stepM (rdO bk ds t p) "whole" = some (.dat (.str t)) := by simp [rdO, nmR]
@[simp] theorem rdO_place : stepM (rdO bk ds t p) "place" = some (.dat (.int p)) := by simp [rdO, nmR]
@[simp] theorem rdO_put : putFld (frO bk (dls ds')) "frames" (rdO bk ds t p) = rdO bk ds' t p := by simp [rdO, nmR']
@[simp] theorem rdO_is : (∃ fs, rdO bk ds t p = .obj 1 fs) ↔ True := by simp [rdO]
theorem rdO_m {x : Str} (h1 : (x = "book") = False) (h2 : (x = "frames") = False) (h3 : (x = "whole") = False) (h4 : (x = "place") = False) : (∃ fs, rdO bk ds t p = .obj 1 fs ∧ lookM x fs = none) ↔ True := by
  simp only [iff_true]
  exact ⟨_, rfl, by simp [h1, h2, h3, h4]⟩
@[simp] theorem rdO_begin : (∃ fs, rdO bk ds t p = .obj 1 fs ∧ lookM "begin" fs = none) ↔ True := rdO_m (by decide) (by decide) (by decide) (by decide)
@[simp] theorem rdO_feed : (∃ fs, rdO bk ds t p = .obj 1 fs ∧ lookM "feed" fs = none) ↔ True := rdO_m (by decide) (by decide) (by decide) (by decide)
@[simp] theorem rdO_finish : (∃ fs, rdO bk ds t p = .obj 1 fs ∧ lookM "finish" fs = none) ↔ True := rdO_m (by decide) (by decide) (by decide) (by decide)
@[simp] theorem rdO_standing : (∃ fs, rdO bk ds t p = .obj 1 fs ∧ lookM "standing" fs = none) ↔ True := rdO_m (by decide) (by decide) (by decide) (by decide)
@[simp] theorem rdO_held : (∃ fs, rdO bk ds t p = .obj 1 fs ∧ lookM "held" fs = none) ↔ True := rdO_m (by decide) (by decide) (by decide) (by decide)
@[simp] theorem rdO_ex {P : List (Str × M) → Prop} : (∃ fs, rdO bk ds t p = .obj 1 fs ∧ P fs) ↔ P [("book", .dat (toBk bk)), ("frames", frO bk (dls ds)), ("whole", .dat (.str t)), ("place", .dat (.int p))] := by simp [rdO]
@[simp] theorem frO_is_sure {l : M} : (∃ fs, frO bk l = .obj 0 fs ∧ lookM "is_sure" fs = none) ↔ True := frO_m (by decide) (by decide)
end
theorem rbegin_ok {bk : Bk} {fs : List (Str × M)} {Φ : M → Option M → Prop} (hf : fs = ([(("book" : Str), M.dat (toBk bk))] : List (Str × M)) ∨ ∃ x y z, fs = ([(("book" : Str), M.dat (toBk bk)), (("frames" : Str), x), (("whole" : Str), y), (("place" : Str), z)] : List (Str × M))) (k : Φ (.dat .non) (some (rdO bk [] [] 0))) : TF F_Reader_begin [.obj 1 fs] Φ := by
  refine TF_B rfl ?_
  rcases hf with rfl | ⟨x, y, z, rfl⟩
  · simp [g_Reader_begin, start0]
    refine init_ok ?_
    simp [nmR, nmR']
    exact k
  · simp [g_Reader_begin, start0]
    refine init_ok ?_
    simp [nmR, nmR']
    exact k
theorem reader_ok {bk : Bk} {Φ : M → Option M → Prop} (k : Φ (.dat .non) (some (rdO bk [] [] 0))) : TF F_Reader___init__ [.obj 1 [], .dat (toBk bk)] Φ := by
  refine TF_B rfl ?_
  simp [g_Reader___init__, start0]
  refine ⟨by decide, rbegin_ok (.inl rfl) ?_⟩
  exact k
theorem rstanding_ok {bk : Bk} {ds : List D3} {t : List Nat} {p : Nat} (hn : ds.length ≤ 90000) {Φ : M → Option M → Prop} (k : Φ (.dat (.tup (ds.map toT))) (some (rdO bk ds t p))) : TF F_Reader_standing [rdO bk ds t p] Φ := by
  refine TF_B rfl ?_
  simp [g_Reader_standing, start0]
  refine told_ok hn ?_
  simp
  exact k
theorem held_ok {bk : Bk} {ds : List D3} {t : List Nat} {p : Nat} (ht : TOk t) {Φ : M → Option M → Prop} (k : Φ (.dat (.int (t.length - p))) (some (rdO bk ds t p))) : TF F_Reader_held [rdO bk ds t p] Φ := by
  have := ht.l
  refine TF_B rfl ?_
  simp [g_Reader_held, start0]
  exact ⟨by omega, k⟩
theorem cutD_4 {t : List Nat} {p : Nat} : cutD t (some (p : Int)) (some ((p : Int) + 4)) = (t.drop p).take 4 := by
  rw [cutD_lohi (by omega) (by omega)]
  congr 1
  omega
theorem sure_eq {bk : Bk} {ds : List D3} {t : List Nat} {p n : Nat} (hg : Good bk) (hd : DOk bk ds n) (hw1 : wordS bk ds t p ≠ sc "cut") (hw2 : wordS bk ds t p ≠ sc "escape") :
    sureS bk ds t p = (decide (p + (((t.drop p).take 4).length) < t.length) || ((cands bk ds).filter fun m => decide (m.length > max (stepS bk ds t p).1.2 ((t.drop p).take 4).length) && ((t.drop p).take 4).isPrefixOf m).isEmpty) := by
  have hc := (cand_ok hg hd).1
  unfold sureS
  rw [if_neg hw1, if_neg hw2]
  have hl : ((t.drop p).take 4).length = min 4 (t.length - p) := by rw [List.length_take, List.length_drop]
  by_cases h4 : p + ((t.drop p).take 4).length < t.length
  · rw [decide_eq_true h4, Bool.true_or]
    refine List.all_eq_true.mpr fun m hm => ?_
    have := (hc m hm).l
    have : decide (t.length - p < m.length) = false := by rw [decide_eq_false_iff_not]; omega
    rw [this]
    simp
  · rw [decide_eq_false h4, Bool.false_or]
    have ht : (t.drop p).take 4 = t.drop p := List.take_of_length_le (by rw [List.length_drop]; omega)
    rw [ht]
    have hl2 : (t.drop p).length = t.length - p := List.length_drop
    rw [Bool.eq_iff_iff, List.all_eq_true, List.isEmpty_iff, List.filter_eq_nil_iff]
    constructor
    · intro h m hm z
      have := h m hm
      simp only [Bool.and_eq_true, decide_eq_true_eq, gt_iff_lt] at z
      have z1 : (stepS bk ds t p).1.2 < m.length := by omega
      have z2 : t.length - p < m.length := by omega
      simp [z1, z2, z.2] at this
    · intro h m hm
      have := h m hm
      cases e : (decide ((stepS bk ds t p).1.2 < m.length) && decide (t.length - p < m.length) && (t.drop p).isPrefixOf m) with
      | false => rfl
      | true =>
        exfalso
        apply this
        simp only [Bool.and_eq_true, decide_eq_true_eq] at e
        simp only [Bool.and_eq_true, decide_eq_true_eq, gt_iff_lt]
        exact ⟨by omega, e.2⟩
theorem is_sure_ok {bk : Bk} {ds : List D3} {t : List Nat} {p n : Nat} (hg : Good bk) (hd : DOk bk ds n) (hn : n ≤ 90000) (ht : TOk t) (hp : p < t.length) {Φ : M → Option M → Prop} (k : Φ (.dat (.bl (sureS bk ds t p))) (some (frO bk (dls ds)))) : TF F_Frames_is_sure [frO bk (dls ds), .dat (.str t), .dat (.int p)] Φ := by
  have hi := tg_in hg hd
  obtain ⟨hrow, hrm⟩ := row_in hi.1 hi.2
  have hc := cand_ok hg hd
  have hl10 := hg.z.d _ hrm
  have htl := ht.l
  refine TF_B rfl ?_
  simp [g_Frames_is_sure, start0]
  refine pstep_ok hg hd hn ht hp ?_
  simp
  refine ⟨fun hw => ?_, fun hw1 hw2 => ⟨by omega, ptongue_ok hd ?_⟩⟩
  · have e : (wordS bk ds t p == sc "escape") = sureS bk ds t p := by
      unfold sureS
      rcases hw with z | z
      · rw [← z, if_neg wd_ne2.1.symm, if_pos rfl]; simp
      · rw [← z, if_pos rfl, beq_eq_false_iff_ne]; exact wd_ne2.1
    rw [e]
    exact k
  · simp [toBk, atI_pos hi.1, hrow, toRow]
    refine T_gLc_map (f := toDr) (h := fun d => .str d.1) (fun d hd => by simp [toDr]) ?_
    simp
    refine ⟨by omega, ?_⟩
    rw [sure_eq hg hd (fun z => hw2 z.symm) (fun z => hw1 z.symm)] at k
    simp only [cutD_4]
    have hl4 : ((t.drop p).take 4).length ≤ 4 := by rw [List.length_take]; omega
    generalize (t.drop p).take 4 = r4 at *
    have tail : ∀ x6 : M, ¬ (p + r4.length < t.length) → Tp (gLcP (gTo 8) (tbAnd (tB' (n2 fGt (nL fLen (psCons (gV 8) psNil)) (nL fMax2 (psCons (gV 3) (psCons (nL fLen (psCons (gV 5) psNil)) psNil))))) (tB' (nM1 fStarts (gV 8) (gV 5)))) (gV 8)
        [some (frO bk (dls ds)), some (.dat (.str t)), some (.dat (.int p)), some (.dat (.int (stepS bk ds t p).1.2)), some (.dat (.str (wordS bk ds t p))), some (.dat (.str r4)), some x6, none, none] ((cands bk ds).map D.str)) fun acc =>
        acc.length ≤ 100000 ∧ (∀ x ∈ acc, okE 59 x = true) ∧ Φ (.dat (.bl (peqs acc []))) (some (frO bk (dls ds))) := fun x6 h4 => by
      rw [decide_eq_false h4, Bool.false_or] at k
      refine Tp_of (gLcP_map (p := fun m => decide (m.length > max (stepS bk ds t p).1.2 r4.length) && r4.isPrefixOf m) (h := D.str) fun m hm => ?_) ?_
      · have := (hc.1 m hm).l
        simp
        refine ⟨by omega, by omega, fun h1 _ => by split at h1 <;> omega, fun h1 h2 => ?_⟩
        exfalso
        split at h1 <;> omega
      · have hfl := List.length_filter_le (fun m => decide (m.length > max (stepS bk ds t p).1.2 r4.length) && r4.isPrefixOf m) (cands bk ds)
        refine ⟨by simp at hfl ⊢; omega, fun x hx => ?_, ?_⟩
        · obtain ⟨m, hm, rfl⟩ := List.mem_map.mp hx
          have := (hc.1 m (List.mem_filter.mp hm).1).c
          simpa using this
        · rw [peqs_nil, List.isEmpty_map]
          exact k
    refine pclose_ok hd ?_
    have fin : p + r4.length < t.length → Φ (.dat (.bl true)) (some (frO bk (dls ds))) := fun h4 => by
      rw [decide_eq_true h4, Bool.true_or] at k
      exact k
    unfold clD
    cases ec : cl? ds with
    | none =>
      have e : ((rowAt bk (tg ds)).2.map fun d => D.str d.1) = (cands bk ds).map D.str := by
        unfold cands
        rw [ec, List.map_append, List.map_map]
        simp
      simp
      rw [e]
      exact ⟨by omega, by omega, fun h4 => fin (by omega), fun h4 => tail _ (by omega)⟩
    | some c =>
      have e : ((rowAt bk (tg ds)).2.map fun d => D.str d.1) ++ [D.str c] = (cands bk ds).map D.str := by
        unfold cands
        rw [ec, List.map_append, List.map_map]
        simp
      simp
      refine pclose_ok hd ?_
      unfold clD
      rw [ec]
      simp
      rw [e]
      exact ⟨by omega, by omega, by omega, fun h4 => fin (by omega), fun h4 => tail _ (by omega)⟩
structure ROI (bk : Bk) (t : List Nat) (acc0 : List D) (m : Nat) (ρ : Env) : Prop where
  env : ∃ ds l p x4 x5, ρ = [some (frO bk (dls ds)), some (.dat (.str t)), some (.dat (.int (p : Nat))), some (.lst (l.map M.dat)), x4, x5] ∧ Reach bk t ds (acc0 ++ l) p ∧ m = t.length - p
/-- a reading from a place on -/
theorem read_from_ok {bk : Bk} {t : List Nat} {ds : List D3} {acc : List D} {p : Nat} (hg : Good bk) (ht : TOk t) (hr : Reach bk t ds acc p) {Φ : M → Option M → Prop} (k : ∀ l, Reach bk t (runS bk t t.length [] 0).2 (acc ++ l) t.length → Φ (.lst (l.map M.dat)) (some (frO bk (dls (runS bk t t.length [] 0).2)))) :
    TF F_read_on [frO bk (dls ds), .dat (.str t), .dat (.int p)] Φ := by
  have htl := ht.l
  refine TF_B rfl ?_
  simp [g_read_on, start0]
  refine T_whileL (ROI bk t acc) ?_ 1000000 (t.length - p) _ ⟨ds, [], p, none, none, rfl, by simpa using hr, rfl⟩ (by omega)
  rintro m ρ ⟨ds, l, p, x4, x5, rfl, hr, rfl⟩
  have hru := hr.run hg
  simp
  refine ⟨by omega, fun hp => ?_, fun hp => ?_⟩
  · refine pstep_ok hg hru.d (Nat.le_trans hru.q htl) ht hp ?_
    simp
    refine do_ok hg hru.d ht hp ?_
    obtain ⟨h1, h2, h3⟩ := step_facts hg hru.d hp
    have ha := hru.a
    simp at ha
    simp
    refine ⟨by omega, t.length - (p + (stepS bk ds t p).1.2), by omega, _, l ++ [(stepS bk ds t p).1.1], _, _, _, by rw [List.map_append, Int.natCast_add]; rfl, by rw [← List.append_assoc]; exact hr.go hp, rfl⟩
  · have e : p = t.length := by have := hru.q; omega
    subst e
    obtain ⟨e1, rfl⟩ := hr.whole hg
    exact k l hr
structure FdI (bk : Bk) (t piece : List Nat) (acc0 : List D) (m : Nat) (ρ : Env) : Prop where
  env : ∃ ds l p x3 x4, ρ = [some (rdO bk ds t p), some (.dat (.str piece)), some (.lst (l.map M.dat)), x3, x4] ∧ SReach bk t ds (acc0 ++ l) p ∧ m = t.length - p
theorem feed_ok {bk : Bk} {t piece : List Nat} {ds : List D3} {acc : List D} {p : Nat} (hg : Good bk) (ht : TOk (t ++ piece)) (hr : SReach bk t ds acc p) {Φ : M → Option M → Prop} (k : ∀ ds' l p', SReach bk (t ++ piece) ds' (acc ++ l) p' → Stuck bk (t ++ piece) ds' p' → Φ (.lst (l.map M.dat)) (some (rdO bk ds' (t ++ piece) p'))) :
    TF F_Reader_feed [rdO bk ds t p, .dat (.str piece)] Φ := by
  have htl := ht.l
  have htl' := htl
  rw [List.length_append] at htl'
  refine TF_B rfl ?_
  simp [g_Reader_feed, start0]
  simp [nmR, nmR']
  refine ⟨by omega, T_whileL (FdI bk (t ++ piece) piece acc) ?_ 1000000 ((t ++ piece).length - p) _ ⟨ds, [], p, none, none, rfl, by simpa using hr.ext hg piece, rfl⟩ (by omega)⟩
  rintro m ρ ⟨ds, l, p, x3, x4, rfl, hr, rfl⟩
  generalize t ++ piece = w at *
  have hru := hr.reach.run hg
  simp
  refine ⟨by omega, fun hp => is_sure_ok hg hru.d (Nat.le_trans hru.q htl) ht hp ?_, fun hp => k ds l p hr fun z => by omega⟩
  simp
  refine ⟨fun hs => pstep_ok hg hru.d (Nat.le_trans hru.q htl) ht hp ?_, fun hs => k ds l p hr fun z => by rw [hs] at z; cases z.2⟩
  simp
  refine do_ok hg hru.d ht hp ?_
  obtain ⟨h1, h2, h3⟩ := step_facts hg hru.d hp
  have ha := hru.a
  simp at ha
  simp [nmR, nmR']
  exact ⟨by omega, w.length - (p + (stepS bk ds w p).1.2), by omega, _, l ++ [(stepS bk ds w p).1.1], _, _, _, by rw [List.map_append]; rfl, by rw [← List.append_assoc]; exact hr.go hp hs, rfl⟩
theorem finish_ok {bk : Bk} {t : List Nat} {ds : List D3} {acc : List D} {p : Nat} (hg : Good bk) (ht : TOk t) (hr : Reach bk t ds acc p) {Φ : M → Option M → Prop} (k : ∀ l, Reach bk t (runS bk t t.length [] 0).2 (acc ++ l) t.length → Φ (.dat (.lst l)) (some (rdO bk [] [] 0))) :
    TF F_Reader_finish [rdO bk ds t p] Φ := by
  refine TF_B rfl ?_
  simp [g_Reader_finish, start0]
  refine read_from_ok hg ht hr fun l hl => ?_
  simp
  refine rbegin_ok (.inr ⟨_, _, _, rfl⟩) ?_
  simp
  exact k l hl
structure LsI (bk : Bk) (t : List Nat) (acc rest : List D) (ρ : Env) : Prop where
  env : ∃ pre ds1 p1 x4 x5 x6 x7 x8 x9 x10, ρ = [some (.dat (toBk bk)), some (.dat (.lst acc)), some (.dat (.str t)), some (.lst (ds1.map (M.dat ∘ toT))), x4, x5, x6, x7, x8, x9, x10] ∧ acc = pre ++ rest ∧ Reach bk t ds1 pre p1
/-- the law's standing behind steps that were told -/
theorem law_standing_ok {bk : Bk} {t : List Nat} {ds : List D3} {acc : List D} {p : Nat} (hg : Good bk) (ht : TOk t) (hr : Reach bk t ds acc p) {Φ : M → Option M → Prop} (k : Φ (.dat (.tup (ds.map toT))) none) : TF F_law_standing [.dat (toBk bk), .dat (.lst acc), .dat (.str t)] Φ := by
  have htl := ht.l
  refine TF_B rfl ?_
  simp [g_law_standing, start0]
  refine T_forL (LsI bk t acc) ?_ ?_ ⟨[], [], 0, _, _, _, _, _, _, _, rfl, rfl, .zero⟩
  · rintro d rest ρ ⟨pre, ds1, p1, x4, x5, x6, x7, x8, x9, x10, rfl, e, hr1⟩
    obtain ⟨ds2, p2, hr2, hp, ed⟩ := hr.mid e
    obtain ⟨rfl, _, rfl⟩ := hr2.det hr1 rfl
    have hru := hr1.run hg
    have hdn := hru.d.n
    have hq := hru.q
    have hgo := hr1.go hp
    have hi := tg_in hg hru.d
    obtain ⟨hrow, hrm⟩ := row_in hi.1 hi.2
    subst ed
    have e2 : acc = (pre ++ [(stepS bk ds2 t p2).1.1]) ++ rest := by rw [e]; simp
    obtain ⟨w1, w2, w3, w4, w5, w6, w7, w8, w9, w10, w11, w12, w13, w14, w15, w16⟩ := wd_ne2
    rcases kd bk ds2 t p2 with ⟨_, _, s, w⟩ | ⟨_, _, s, w⟩ | ⟨_, b, s, w⟩ | ⟨_, b, c, s, w⟩ | ⟨_, b, c, s, w⟩
    all_goals rw [s] at hgo e2 ⊢
    · simp [tupS, w11, w12]
      exact ⟨_, _, _, _, _, _, _, _, _, _, rfl, e2, hgo⟩
    · simp [tupS, w13, w14]
      exact ⟨_, _, _, _, _, _, _, _, _, _, rfl, e2, hgo⟩
    · simp [tupS, w8, w9]
      exact ⟨_, _, _, _, _, _, _, _, _, _, rfl, e2, hgo⟩
    · rcases List.eq_nil_or_concat ds2 with rfl | ⟨init, d, rfl⟩
      · simp [cl?] at c
      · rw [List.concat_eq_append] at *
        simp [tupS, w10.symm]
        rw [show (init ++ [d]).dropLast = init from by simp] at hgo e2
        exact ⟨_, init, _, _, _, _, _, _, _, _, rfl, e2, hgo⟩
    · obtain ⟨rest', hf, hdm, hdm1⟩ := door_of (best_cand b) c
      have hfl := List.length_filter_le (fun d : Dr => d.1 == best (fitL bk ds2 t p2)) (rowAt bk (tg ds2)).2
      have hl10 := hg.z.d _ hrm
      have hpre := best_pre (bk := bk) (ds := ds2) (t := t) (p := p2)
      rw [← pre_take, beq_iff_eq] at hpre
      simp [tupS, w10, toBk, atI_pos hi.1, hrow, toRow]
      refine Tp_of (gLcP_map (p := fun d => d.1 == best (fitL bk ds2 t p2)) (h := toDr) fun d' hd' => ?_) ?_
      · simp [toDr]
        rw [cutD_lohi (by omega) (by omega), show ((p2 : Int) + (best (fitL bk ds2 t p2)).length).toNat - (p2 : Int).toNat = (best (fitL bk ds2 t p2)).length by omega, Int.toNat_natCast, hpre]
        exact ⟨by omega, rfl⟩
      · rw [hf] at hfl ⊢
        simp at hfl
        simp [toDr, cutD_lo]
        exact ⟨by omega, by omega, _, _, _, _, _, _, _, _, _, _, by rw [List.map_append]; rfl, e2, hgo⟩
  · rintro ρ ⟨pre, ds1, p1, x4, x5, x6, x7, x8, x9, x10, rfl, e, hr1⟩
    rw [List.append_nil] at e
    subst e
    obtain ⟨rfl, _, rfl⟩ := hr1.det hr rfl
    simp
    exact k
end Y
/-! Y: a method of a fresh instance. -/
namespace Y
open PySem L2
variable [TabC]
def gMethK (calm : Bool) (C : Nat) (x : Str) (f : List M → Option Rr) (gs : G (List D)) : M → G M
  | .obj C' fs => if C' = C then (match lookM x fs with
    | none => gBind gs fun es ρ => (match f (.obj C' fs :: es.map M.dat) with
      | some (.ok r _) => some (.ok r ρ)
      | some (.ex c _) => if calm then none else some (.ex c ρ)
      | none => none)
    | some _ => fun _ => none) else fun _ => none
  | _ => fun _ => none
def gMethT (calm : Bool) (C : Nat) (x : Str) (f : List M → Option Rr) (go : G M) (gs : G (List D)) : G M := gBind go (gMethK calm C x f gs)
section
variable {K : Kx} {E : XK} {kp : Nat → Bool} {F F' F1 F2 H H' H1 H2 : Hp} {as as' as1 as2 bs : List Addr} {σ σ' σ1 : L2.St} {ρ : Env} {te : TE} {ta : TA}
/-- a call's end, its first argument fresh -/
theorem call_fresh {f : List M → Option Rr} {calm : Bool} {E' : XK} (hE : calm = true ∨ E' = E) {m : M} {rs1 : List Addr} {v : V} {ws : List V} {es : List D} {o : Rs M} {ρ1 : Env} {Q : VK} (g1 : Gr F H as F1 H1 (as1 ++ rs1)) (so1 : SO K F1 H1 σ ρ1 as1) (ow1 : Own K F1 H1 v m rs1) (n1 : ∀ z ∈ rs1, z ∉ as1) (r3 : DVs K F1 ws es)
    (e1 : (match f (m :: es.map M.dat) with
      | some (.ok r _) => some (Rs.ok r ρ1)
      | some (.ex c _) => if calm then none else some (.ex c ρ1)
      | none => none) = some o) (hx : XP K E kp F H σ as o)
    (k : ∀ m ρ', o = .ok m ρ' → ∀ F' H' as' rs v, Gr F H as F' H' (as' ++ rs) → SO K F' H' σ ρ' as' → Own K F' H' v m rs → (∀ z ∈ rs, z ∉ as') → Q v H') : spM K (some 0) f (v :: ws) H1 Q E' := by
  cases ef : f (m :: es.map M.dat) with
  | none => simp only [ef] at e1; cases e1
  | some of =>
    simp only [ef] at e1
    have key : ∀ {F' H' : Hp} {as' : List Addr}, Gr F1 H1 rs1 F' H' as' → SO K F' H' σ ρ1 as1 ∧ (∀ z ∈ as1, z ∉ as') := fun {F' H' as'} g' =>
      ⟨so1.frame g' fun b hb z => n1 b z hb, fun z hz y => (g'.nw z y).elim (fun q => n1 z q hz) fun q => (so1.has z hz).1 q⟩
    have back : ∀ a, a ∉ as → H1 a = none → H a = none := fun a na q => by
      exact g1.back0 na q
    refine ⟨F1, _, _, of, g1.fh, so1.tab, owns_mid (vs := []) (ds := []) .nil ow1 r3, ef, fun r' m' eo F' H' as' rs v' g' oa ow n => ?_, fun c m' eo F' H' as' g' oa => ?_⟩
    · subst eo
      simp only at e1
      obtain ⟨q1, q2⟩ := key g'
      refine k r' ρ1 (Option.some.inj e1).symm F' H' as1 rs v' (g1.comp g' (fun a eh na z => ?_) (fun a z => ?_) (fun a ea eh na => g'.fz a (g1.fz a ea eh na) (g1.there eh na) fun z => ?_)) q1 ow fun z hz y => q2 z y (List.mem_append_right _ hz)
      · exact g1.out eh na (List.mem_append_right _ z)
      · rcases List.mem_append.mp z with z | z
        · exact (g1.nw a (List.mem_append_left _ z))
        · exact (g'.nw a (List.mem_append_right _ z)).elim (fun q => g1.nw a (List.mem_append_right _ q)) fun q => by
            by_cases na : a ∈ as
            · exact .inl na
            · exact .inr (back a na q)
      · exact g1.out eh na (List.mem_append_right _ z)
    · subst eo
      simp only at e1
      obtain ⟨q1, q2⟩ := key g'
      split at e1
      · cases e1
      · rename_i hc
        rcases hE with h | h
        · exact absurd h hc
        · subst h
          refine hx c ρ1 (Option.some.inj e1).symm F' H' σ as1 (.refl _) (g1.comp g' (fun a eh na z => ?_) (fun a z => g1.nw a (List.mem_append_left _ z)) (fun a ea eh na => g'.fz a (g1.fz a ea eh na) (g1.there eh na) fun z => ?_)) q1
          · exact g1.out eh na (List.mem_append_right _ z)
          · exact g1.out eh na (List.mem_append_right _ z)
theorem em_methT {f : List M → Option Rr} {C : Nat} {x : Str} {go : G M} {gs : G (List D)} {calm : Bool} {E' : XK} (hE : calm = true ∨ E' = E) (ho : EM K E kp te go) (ha : EXs K E kp ta gs) :
    EM K E kp (tMeth (K.ca C) x (spM K (some 0) f) [] E' te ta) (gMethT calm C x f go gs) := fun F H σ ρ as o Q hs so e hx k => by
  refine ho.use hs so e hx fun m ρ0 F0 H0 as0 rs0 v g0 so0 ow0 n0 e0 => ?_
  cases m with
  | obj C' fs =>
    by_cases hC : C' = C
    case neg => simp only [gMethK, if_neg hC] at e0; cases e0
    subst hC
    cases en : lookM x fs with
    | some y => simp only [gMethK, if_true, en] at e0; cases e0
    | none =>
    simp only [gMethK, if_true, en] at e0
    have hv : ∃ a dx fvs, v = .ref a ∧ H0 a = some (.ins (K.ca C') dx fvs) ∧ fvs.lookup x = none := by
      cases ow0 with
      | obj ha' hd fa fd enames hs' n1 n2 n3 => exact ⟨_, _, _, rfl, ha', fields_none enames en⟩
    obtain ⟨a, dx, fvs, rfl, h1, h2⟩ := hv
    refine ⟨a, dx, fvs, rfl, h1, h2, ?_⟩
    refine ha.use g0.fh so0 e0 (hx.step (.refl _) g0.left) fun es ρ1 F2 H2 as2 ws g2 so2 r2 e1 => ?_
    rw [List.append_nil]
    have g12 : Gr F H as F2 H2 (as2 ++ rs0) := g0.trans (g2.re g2.ff g2.fh (fun a z => List.mem_append_left _ z) (fun a z => by
      rcases List.mem_append.mp z with z | z
      · exact (g2.nw a z).imp (List.mem_append_left _) id
      · exact .inl (List.mem_append_right _ z)) (fun a e1 e2 q => g2.fz a e1 e2 fun z => q (List.mem_append_left _ z)))
    exact call_fresh hE g12 so2 (ow0.frame g2 n0) (ow0.apart g2 n0) r2 e1 hx k
  | _ => cases e0
end
@[simp] theorem T_gMethT {C : Nat} {x : Str} {f : List M → Option Rr} {go : G M} {gs : G (List D)} {ρ : Env} {Φ : M → Env → Prop} : T (gMethT true C x f go gs) ρ Φ ↔ T go ρ fun m ρ1 => (∃ fs, m = .obj C fs ∧ lookM x fs = none) ∧ T gs ρ1 fun es ρ2 => TF f (m :: es.map M.dat) fun r _ => Φ r ρ2 := by
  have key : ∀ (m : M) (ρ1 : Env), T (gMethK true C x f gs m) ρ1 Φ ↔ (∃ fs, m = .obj C fs ∧ lookM x fs = none) ∧ T gs ρ1 fun es ρ2 => TF f (m :: es.map M.dat) fun r _ => Φ r ρ2 := fun m ρ1 => by
    cases m with
    | obj C' fs =>
      by_cases hC : C' = C
      · subst hC
        cases e5 : lookM x fs with
        | some y => simp [gMethK, e5, T]
        | none =>
          have hx : (∃ fs_1, M.obj C' fs = M.obj C' fs_1 ∧ lookM x fs_1 = none) ↔ True := ⟨fun _ => trivial, fun _ => ⟨fs, rfl, e5⟩⟩
          simp only [gMethK, if_true, e5, hx, true_and]
          rw [T_bind]
          constructor <;> intro q <;> refine T.mono q fun es ρ2 z => ?_ <;> unfold T at * <;> unfold TF at * <;> (try dsimp only at *) <;> (cases ef : f (.obj C' fs :: es.map M.dat) with
            | none => simp_all
            | some r => cases r <;> simp_all)
      · simp [gMethK, hC, T]
    | _ => simp [gMethK, T]
  unfold gMethT
  rw [T_bind]
  constructor <;> intro q <;> refine T.mono q fun m ρ1 z => ?_
  · exact (key m ρ1).mp z
  · exact (key m ρ1).mpr z
end Y
/-! shared by laws; the law's own steps that are sure -/
namespace Y
open PySem L2
theorem fIn_two {w a b : List Nat} (hw : ∀ x ∈ w, x < 1114112) (ha : ∀ x ∈ a, x < 1114112) (hb : ∀ x ∈ b, x < 1114112) : fIn (.dat (.str w)) (.lst [.dat (.str a), .dat (.str b)]) = some (.dat (.bl (a == w || b == w))) := by
  have e : (M.lst [.dat (.str a), .dat (.str b)]).view = some (.lst [.str a, .str b]) := by simp [M.view, views]
  have h : inD (.str w) [.str a, .str b] = some (a == w || b == w) := by
    unfold inD
    rw [if_pos (by simp; exact ⟨hw, ha, hb⟩)]
    simp [peq]
  unfold fIn fInB
  simp only [e, view_dat, h]
theorem tg_getD (ds : List D3) : ((ds.map fun d => D.int d.2.1).getLast?.getD (D.int 0)) = .int (tg ds) := by
  rcases List.eq_nil_or_concat ds with rfl | ⟨init, d, rfl⟩
  · rfl
  · rw [List.concat_eq_append, tg_app]
    simp
theorem gLcP_id {st : D → G Unit} {tt : Env → Option Bool} {ge : Env → Option M} {ρ : Env} {h : D → D} {xs : List D} (hh : ∀ x ∈ xs, T (st x) ρ fun _ ρ3 => Tp (tt ρ3) fun b => b = true ∧ Tp (ge ρ3) fun m => m = .dat (h x)) : gLcP st tt ge ρ xs = some (xs.map h) := by
  have := gLcP_all (f := fun d => d) (h := h) hh
  simpa using this
theorem fSum_ints {ns : List Int} : fSum [.lst (ns.map (M.dat ∘ D.int))] = some (.dat (.int ns.sum)) := by
  have e : litems (.lst (ns.map (M.dat ∘ D.int))) = some (ns.map D.int) := by rw [← List.map_map]; exact dats_map _
  simp only [fSum, e, ints_map]
theorem fSum_many {L : List D} : fSum [.lst ((L.map fun d => D.int (manyD d)).map M.dat)] = some (.dat (.int (L.map manyD).sum)) := by
  have := fSum_ints (ns := L.map manyD)
  rw [List.map_map] at this ⊢
  exact this
theorem SReach.ok {bk : Bk} {t : List Nat} {ds : List D3} {acc : List D} {p : Nat} (hg : Good bk) (h : SReach bk t ds acc p) : (∀ x ∈ acc, okE 59 x = true) ∧ acc.length ≤ t.length ∧ ds.length ≤ t.length ∧ (∀ x ∈ ds.map toT, okE 59 x = true) := by
  have hr := h.reach.run hg
  have := hr.a
  have := hr.q
  have := hr.d.n
  refine ⟨fun x hx => okE_mono (by decide) (hr.k x hx), by omega, by omega, fun x hx => ?_⟩
  obtain ⟨d, hd, rfl⟩ := List.mem_map.mp hx
  have := (hr.d.c d hd).c
  simp [toT]
  exact this
def g_law_sure_B1 : G Fl :=
 (gThen (sSet 5 (gView (n2 fIdx (n2 fAdd (nLst (pCons (cM (.dat (.int 0))) pNil)) (gCompP (pItems (gV 2)) (gTo 11) tbYes (n2 fIdx (gV 11) (cM (.dat (.int 1)))) [11])) (n1 fNeg (cM (.dat (.int 1)))))))
 (gThen (sSet 6 (xM (gCallS true 1 F_law_fitting (gNext (xE (gV 0)) (gHere 2 (xCons (xE (gV 1)) (xCons (xE (gV 4)) xNil)))))))
 (gThen (sSet 7 (xM (gCallT true 1 F_law_step (fNext (xE (gV 0)) (fHere (gOf (nL fList (psCons (gV 2) psNil))) (xCons (xE (gV 1)) (xCons (xE (gV 4)) (xCons (gView (nM1 fJoin (cM (.dat (.str (sc "")))) (nSl fSl (gV 6) oNo (oAt (cM (.dat (.int 1))))))) xNil))))))))
 (gThen (sSet 8 (gView (nSl fSl (gV 1) (oAt (gV 4)) oNo)))
 (gThen (sSet 9 (gView (n2 fAdd (gCompP (pItems (n2 fIdx (n2 fIdx (gV 0) (gV 5)) (cM (.dat (.int 1))))) (gTo 11) tbYes (n2 fIdx (gV 11) (cM (.dat (.int 0)))) [11]) (gCompP (pItems (nSl fSl (gV 2) (oAt (n1 fNeg (cM (.dat (.int 1))))) oNo)) (gTo 11) tbYes (n2 fIdx (gV 11) (cM (.dat (.int 2)))) [11]))))
 (gThen (sSet 10 (gView (gCompP (pItems (gV 9)) (gTo 12) (tbAnd (tB' (n2 fGt (nL fLen (psCons (gV 12) psNil)) (nL fMax2 (psCons (n2 fIdx (gV 7) (cM (.dat (.int 1)))) (psCons (nL fLen (psCons (gV 8) psNil)) psNil))))) (tB' (n2 fEq (nSl fSl (gV 12) oNo (oAt (nL fLen (psCons (gV 8) psNil)))) (gV 8)))) (gV 12) [12])))
 (gThen (sIf (gOf (tbOr (tB' (n2 fEq (n2 fIdx (gV 7) (cM (.dat (.int 2)))) (cM (.dat (.str (sc "cut")))))) (tbAnd (tB' (n2 fNe (n2 fIdx (gV 7) (cM (.dat (.int 2)))) (cM (.dat (.str (sc "escape")))))) (tB' (n2 fNe (gV 10) (nLst pNil))))))
 (sRet (gTake 3))
 gSkip)
 (gThen (gAppS 3 (xM (gCallS true 1 F_law_step (gNext (xE (gV 0)) (gHere 2 (xCons (xE (gV 1)) (xCons (xE (gV 4)) (xCons (gView (nM1 fJoin (cM (.dat (.str (sc "")))) (nSl fSl (gV 6) oNo (oAt (cM (.dat (.int 1))))))) xNil))))))))
 (sSet 4 (gView (n2 fAdd (gV 4) (n2 fIdx (gV 7) (cM (.dat (.int 1)))))))))))))))
def g_law_sure : G Fl :=
 (gThen (sSetM 2 (gOf (nLst pNil)))
 (gThen (sSetM 3 (gOf (nLst pNil)))
 (gThen (sSet 4 (gView (cM (.dat (.int 0)))))
 (gThen (gWhile (gOf (tB' (n2 fLt (gV 4) (nL fLen (psCons (gV 1) psNil)))))
 g_law_sure_B1 1000000)
 (sRet (gTake 3))))))
def F_law_sure : List M → Option Rr := ar 2 (defF 13 none g_law_sure)
theorem ni_law_sure (ms : List M) (o : Rr) (h : F_law_sure ms = some o) : defF 13 none g_law_sure ms = some o := ar_imp (fun _ _ h => h) ms o h

structure LsuI (bk : Bk) (t : List Nat) (m : Nat) (ρ : Env) : Prop where
  env : ∃ ds l p x5 x6 x7 x8 x9 x10 x11 x12, ρ = [some (.dat (toBk bk)), some (.dat (.str t)), some (dls ds), some (.lst (l.map M.dat)), some (.dat (.int (p : Nat))), x5, x6, x7, x8, x9, x10, x11, x12] ∧ SReach bk t ds l p ∧ m = t.length - p
theorem sure_eq2 {bk : Bk} {ds : List D3} {t : List Nat} {p : Nat} (hw1 : wordS bk ds t p ≠ sc "cut") (hw2 : wordS bk ds t p ≠ sc "escape") :
    sureS bk ds t p = ((cands bk ds).filter fun m => decide (m.length > max (stepS bk ds t p).1.2 (t.drop p).length) && (m.take (t.drop p).length == t.drop p)).isEmpty := by
  unfold sureS
  rw [if_neg hw1, if_neg hw2]
  have hl2 : (t.drop p).length = t.length - p := List.length_drop
  rw [Bool.eq_iff_iff, List.all_eq_true, List.isEmpty_iff, List.filter_eq_nil_iff]
  constructor
  · intro h m hm z
    have := h m hm
    rw [pre_take] at z
    simp only [Bool.and_eq_true, decide_eq_true_eq, gt_iff_lt] at z
    have z1 : (stepS bk ds t p).1.2 < m.length := by omega
    have z2 : t.length - p < m.length := by omega
    simp [z1, z2, z.2] at this
  · intro h m hm
    have := h m hm
    cases e : (decide ((stepS bk ds t p).1.2 < m.length) && decide (t.length - p < m.length) && (t.drop p).isPrefixOf m) with
    | false => rfl
    | true =>
      exfalso
      apply this
      rw [pre_take]
      simp only [Bool.and_eq_true, decide_eq_true_eq] at e
      simp only [Bool.and_eq_true, decide_eq_true_eq, gt_iff_lt]
      exact ⟨by omega, e.2⟩
theorem law_sure_ok {bk : Bk} {t : List Nat} (hg : Good bk) (ht : TOk t) {Φ : M → Option M → Prop} (k : ∀ ds l p, SReach bk t ds l p → Stuck bk t ds p → Φ (.lst (l.map M.dat)) none) : TF F_law_sure [.dat (toBk bk), .dat (.str t)] Φ := by
  have htl := ht.l
  refine TF_B rfl ?_
  simp [g_law_sure, start0]
  refine T_whileL (LsuI bk t) ?_ 1000000 t.length _ ⟨[], [], 0, _, _, _, _, _, _, _, _, rfl, .zero, by simp⟩ (by omega)
  rintro m ρ ⟨ds, l, p, x5, x6, x7, x8, x9, x10, x11, x12, rfl, hr, rfl⟩
  have hru := hr.reach.run hg
  have hi := tg_in hg hru.d
  obtain ⟨hrow, hrm⟩ := row_in hi.1 hi.2
  have hc := cand_ok hg hru.d
  have hl10 := hg.z.d _ hrm
  have hdn := hru.d.n
  have hq := hru.q
  have ha := hru.a
  simp
  refine ⟨by omega, fun hp => ?_, fun hp => k ds l p hr fun z => by omega⟩
  simp [g_law_sure_B1]
  refine Tp_of (gLcP_all (h := fun d => .int d.2.1) fun d hd => by simp [toD3]) ?_
  refine ⟨by simp; omega, by simp; omega, fitting_ok hg hru.d ht ?_⟩
  rw [tg_getD]
  simp
  rw [← List.map_reverse]
  refine Tp_views_comp.mpr ?_
  rw [cutD_hi (by decide), show (1 : Int).toNat = 1 from rfl, ← List.map_take, List.map_map, join_best (l := fitL bk ds t p) fun m hm => (hc.1 m (List.mem_filter.mp hm).1).l]
  simp only [Tp_some, view_dat]
  obtain ⟨to, dep, es⟩ := stepS_word (bk := bk) (ds := ds) (t := t) (p := p)
  refine step_ok hg hru.d (Nat.le_trans hru.q htl) ht hp ?_
  simp [toBk, atI_pos hi.1, hrow, toRow]
  refine ⟨by omega, Tp_of (gLcP_all (h := fun d => .str d.1) fun d hd => by simp [toDr]) ⟨by simp; omega, ?_⟩⟩
  rw [cut_last]
  refine Tp_of (gLcP_all (h := fun d => .str d.2.2) fun d hd => by simp [toD3]) ?_
  have hlast : ds.getLast?.toList.length ≤ 1 := by cases ds.getLast? <;> simp
  refine ⟨by simp; omega, by simp; omega, ?_⟩
  have e : ((rowAt bk (tg ds)).2.map fun d => D.str d.1) ++ (ds.getLast?.toList.map fun d => D.str d.2.2) = (cands bk ds).map D.str := by
    unfold cands cl?
    rw [List.map_append, List.map_map]
    cases ds.getLast? <;> rfl
  rw [e, cutD_lo (by omega), Int.toNat_natCast]
  have hrl : (t.drop p).length = t.length - p := List.length_drop
  refine Tp_of (gLcP_map (p := fun m => decide (m.length > max (stepS bk ds t p).1.2 (t.drop p).length) && (m.take (t.drop p).length == t.drop p)) (h := D.str) fun m hm => ?_) ?_
  · have := (hc.1 m hm).l
    simp [es, tupS]
    rw [cutD_hi (by omega), Int.toNat_natCast]
    refine ⟨by omega, by omega, fun h1 => ⟨by omega, by omega, ?_⟩, fun h1 h2 => ?_⟩
    · have : max (stepS bk ds t p).1.2 (t.length - p) < m.length := by split at h1 <;> omega
      simp [this]
    exfalso
    split at h1 <;> omega
  · have hfl := List.length_filter_le (fun m => decide (m.length > max (stepS bk ds t p).1.2 (t.drop p).length) && (m.take (t.drop p).length == t.drop p)) (cands bk ds)
    have hse := sure_eq2 (bk := bk) (ds := ds) (t := t) (p := p)
    have hok : ∀ x ∈ ((cands bk ds).filter fun m => decide (m.length > max (stepS bk ds t p).1.2 (t.drop p).length) && (m.take (t.drop p).length == t.drop p)).map D.str, okE 59 x = true := fun x hx => by
      obtain ⟨m, hm, rfl⟩ := List.mem_map.mp hx
      have := (hc.1 m (List.mem_filter.mp hm).1).c
      simpa using this
    generalize (cands bk ds).filter (fun m => decide (m.length > max (stepS bk ds t p).1.2 (t.drop p).length) && (m.take (t.drop p).length == t.drop p)) = L at *
    obtain ⟨h1, h2, h3⟩ := step_facts hg hru.d hp
    have fin : sureS bk ds t p = true → ∀ x5 x6 x7 x8 x9 x10 x11 x12, ∃ m', m' < t.length - p ∧ LsuI bk t m' [some (.dat (toBk bk)), some (.dat (.str t)), some (dls (stepS bk ds t p).2), some (.lst (l.map M.dat ++ [.dat (stepS bk ds t p).1.1])), some (.dat (.int ((p : Int) + (stepS bk ds t p).1.2))), x5, x6, x7, x8, x9, x10, x11, x12] := fun hs x5 x6 x7 x8 x9 x10 x11 x12 =>
      ⟨t.length - (p + (stepS bk ds t p).1.2), by omega, _, l ++ [(stepS bk ds t p).1.1], _, _, _, _, _, _, _, _, _, by rw [List.map_append, Int.natCast_add]; rfl, hr.go hp hs, rfl⟩
    refine ⟨by simp; omega, ?_⟩
    simp [es, tupS]
    refine ⟨fun hw => k ds l p hr fun z => ?_, fun hw => ⟨fun hw2 => ⟨by simpa using hok, fun hL => k ds l p hr fun z => ?_, fun hL => ?_⟩, fun hw2 => ?_⟩⟩
    · have := z.2
      unfold sureS at this
      rw [if_pos hw] at this
      cases this
    · rw [hse hw hw2, ] at z
      rw [peqs_nil] at hL
      simp at hL z
      exact hL z.2
    · refine step_ok hg hru.d (Nat.le_trans hru.q htl) ht hp ?_
      rw [peqs_nil] at hL
      have hs : sureS bk ds t p = true := by rw [hse hw hw2]; simpa using hL
      have := fin hs
      rw [es] at this ⊢
      simp
      exact ⟨by omega, this _ _ _ _ _ _ _ _⟩
    · refine step_ok hg hru.d (Nat.le_trans hru.q htl) ht hp ?_
      have hs : sureS bk ds t p = true := by unfold sureS; rw [if_neg hw, if_pos hw2]
      have := fin hs
      rw [es] at this ⊢
      simp
      exact ⟨by omega, this _ _ _ _ _ _ _ _⟩
end Y
/-! Y: dicts by whole numbers and texts; list(range(..)); a module's constants. -/
namespace Y
open PySem L2
variable [TabC]
def kEq : D → D → Bool
  | .int i, .int j => decide (i = j)
  | .str s, .str t => decide (s = t)
  | _, _ => false
def isKey : D → Bool
  | .int _ => true
  | .str _ => true
  | _ => false
def lookD (kds : List (D × D)) (k : D) : Option D := (kds.find? fun kv => kEq kv.1 k).map (·.2)
def putD (kds : List (D × D)) (k v : D) : List (D × D) := if (kds.any fun kv => kEq kv.1 k) = true then kds.map (fun kv => if kEq kv.1 k = true then (kv.1, v) else kv) else kds ++ [(k, v)]
theorem kEq_keyD (a b : Key) : kEq (keyD a) (keyD b) = decide (a = b) := by
  cases a with
  | inl i => cases b with
    | inl j => simp [keyD, kEq]
    | inr y => simp [keyD, kEq]
  | inr x => cases b with
    | inl j => simp [keyD, kEq]
    | inr y =>
      simp only [keyD, kEq]
      rw [decide_eq_decide]
      constructor
      · intro h
        have : x = y := Str.ext' (by
          have := congrArg List.toArray h
          simpa using this)
        rw [this]
      · intro h
        cases h
        rfl
section
variable {K : Kx} {E : XK} {kp : Nat → Bool} {F F' F1 F2 H H' H1 H2 : Hp} {as as' as1 as2 bs : List Addr} {σ σ' σ1 : L2.St} {ρ : Env} {te td ty tx tv : TE} {ta : TA}
theorem DV.key {v : V} {d : D} (h : DV K F v d) (hk : isKey d = true) : ∃ k : Key, v = kV k ∧ d = keyD k := by
  cases h with
  | int i => exact ⟨.inl i, rfl, rfl⟩
  | str x => exact ⟨.inr x, rfl, rfl⟩
  | _ => cases hk
theorem DVk.look : ∀ {kvs : List (Key × V)} {kds : List (D × D)}, DVk K F kvs kds → ∀ k : Key, (valV kvs k = none ∧ lookD kds (keyD k) = none) ∨ ∃ v d, valV kvs k = some v ∧ lookD kds (keyD k) = some d ∧ DV K F v d
  | _, _, .nil, k => .inl ⟨rfl, rfl⟩
  | _, _, .cons (k := k0) (v := v) (d := d) (kvs := kvs) (kds := kds) h hs, k => by
    by_cases e : k0 = k
    · refine .inr ⟨v, d, valV_pos e, ?_, h⟩
      unfold lookD
      rw [List.find?_cons, kEq_keyD, decide_eq_true e]
      rfl
    · have e2 : lookD ((keyD k0, d) :: kds) (keyD k) = lookD kds (keyD k) := by
        unfold lookD
        rw [List.find?_cons, kEq_keyD, decide_eq_false e]
      rw [valV_neg (p := (k0, v)) e, e2]
      exact DVk.look hs k
theorem DVk.any : ∀ {kvs : List (Key × V)} {kds : List (D × D)}, DVk K F kvs kds → ∀ k : Key, (kds.any fun kv => kEq kv.1 (keyD k)) = (kvs.any fun kv => decide (kv.1 = k))
  | _, _, .nil, k => rfl
  | _, _, .cons (k := k0) h hs, k => by rw [List.any_cons, List.any_cons, kEq_keyD, DVk.any hs k]
theorem DVk.app : ∀ {kvs kws : List (Key × V)} {kds kes : List (D × D)}, DVk K F kvs kds → DVk K F kws kes → DVk K F (kvs ++ kws) (kds ++ kes)
  | _, _, _, _, .nil, h => h
  | _, _, _, _, .cons h hs, h2 => .cons h (DVk.app hs h2)
theorem DVk.map {v : V} {d : D} (hv : DV K F v d) (k : Key) : ∀ {kvs : List (Key × V)} {kds : List (D × D)}, DVk K F kvs kds → DVk K F (kvs.map fun kv => if kv.1 = k then (kv.1, v) else kv) (kds.map fun kv => if kEq kv.1 (keyD k) = true then (kv.1, d) else kv)
  | _, _, .nil => .nil
  | _, _, .cons (k := k0) h hs => by
    rw [List.map_cons, List.map_cons, kEq_keyD]
    by_cases e : k0 = k
    · rw [if_pos e, if_pos (decide_eq_true e)]
      exact .cons hv (DVk.map hv k hs)
    · rw [if_neg e, if_neg (by rw [decide_eq_false e]; simp)]
      exact .cons h (DVk.map hv k hs)
theorem DVk.put {v : V} {d : D} {kvs : List (Key × V)} {kds : List (D × D)} (h : DVk K F kvs kds) (hv : DV K F v d) (k : Key) : DVk K F (putK kvs k v) (putD kds (keyD k) d) := by
  unfold putK putD
  rw [h.any k]
  split
  · exact h.map hv k
  · exact h.app (.cons hv .nil)
theorem DVk.len : ∀ {kvs : List (Key × V)} {kds : List (D × D)}, DVk K F kvs kds → kvs.length = kds.length
  | _, _, .nil => rfl
  | _, _, .cons _ hs => congrArg (· + 1) (DVk.len hs)
def dicOf : M → Option (List (D × D))
  | .dic kds => some kds
  | .dat (.dic kds) => some kds
  | _ => none
theorem Own.dic_rd (hs : Same F H) {v : V} {m : M} {kds : List (D × D)} (h : Own K F H v m as) (e : dicOf m = some kds) : ∃ a kvs, v = .ref a ∧ Rd H a (.dK kvs) ∧ DVk K F kvs kds := by
  unfold dicOf at e
  split at e
  · cases e
    cases h with
    | dic h1 h2 h3 => exact ⟨_, _, rfl, .inl h1, h3⟩
  · cases e
    obtain ⟨a, kvs, rfl, h1, h2⟩ := h.dat_inv.1.dic_inv
    exact ⟨a, kvs, rfl, Rd.mono hs h1, h2⟩
  · cases e
/-- {} -/
theorem en_dnew : EN K tDNewK (cM (.dic [])) := fun F H σ ρ as m Q hs so e k => by
  cases e
  intro p hp
  exact k F _ (.ref p) [p] ((Gr.new hs hp).less (by simp)) (.dic upd_same (hs.free hp) .nil) fun z hz => by rw [List.mem_singleton.mp hz]; exact hp
/-- d[k] -/
def nDGet (gd gi : Env → Option M) : Env → Option M := fun ρ => match gd ρ, gi ρ with
  | some m, some (.dat k) => (match dicOf m with
    | some kds => if isKey k then (lookD kds k).map M.dat else none
    | none => none)
  | _, _ => none
theorem en_dget {gd gi : Env → Option M} (hd : EP K td gd) (hi : EP K ty gi) : EN K (tDGet td ty) (nDGet gd gi) := fun F H σ ρ as m Q hs so e k => by
  unfold nDGet at e
  split at e
  case h_2 => cases e
  rename_i m0 k0 e1 e2
  split at e
  case h_2 => cases e
  rename_i kds e3
  split at e
  case isFalse => cases e
  rename_i hk
  refine hd F H σ ρ as _ _ hs so e1 fun F1 H1 v rs g1 o1 => ?_
  refine hi F1 H1 σ ρ as _ _ g1.fh (so.grow g1) e2 fun F2 H2 iv rs2 g2 o2 => ?_
  obtain ⟨a, kvs, rfl, h1, h2⟩ := (o1.grow g2).dic_rd g2.fh e3
  obtain ⟨key, rfl, rfl⟩ := o2.dat_inv.1.key hk
  rcases h2.look key with ⟨_, q⟩ | ⟨u, d, q1, q2, q3⟩
  · rw [q] at e; cases e
  · rw [q2] at e
    cases e
    exact ⟨a, u, rfl, .inl ⟨kvs, key, h1, rfl, q1.symm⟩, k F2 H2 u [] (g1.trans g2) (.dat q3) (by simp)⟩
def nDIn (b : Bool) (gi gd : Env → Option M) : Env → Option M := fun ρ => match gi ρ, gd ρ with
  | some (.dat k), some m => (match dicOf m with
    | some kds => if isKey k then some (.dat (.bl (xor b (lookD kds k).isSome))) else none
    | none => none)
  | _, _ => none
theorem en_din {gd gi : Env → Option M} (hi : EP K ty gi) (hd : EP K td gd) : EN K (tDIn ty td) (nDIn false gi gd) := fun F H σ ρ as m Q hs so e k => by
  unfold nDIn at e
  split at e
  case h_2 => cases e
  rename_i k0 m0 e1 e2
  split at e
  case h_2 => cases e
  rename_i kds e3
  split at e
  case isFalse => cases e
  rename_i hk
  cases e
  refine hi F H σ ρ as _ _ hs so e1 fun F1 H1 iv rs g1 o1 => ?_
  refine hd F1 H1 σ ρ as _ _ g1.fh (so.grow g1) e2 fun F2 H2 v rs2 g2 o2 => ?_
  obtain ⟨a, kvs, rfl, h1, h2⟩ := o2.dic_rd g2.fh e3
  obtain ⟨key, rfl, rfl⟩ := o1.dat_inv.1.key hk
  refine ⟨a, valV kvs key, rfl, .inl ⟨kvs, key, h1, rfl, rfl⟩, ?_⟩
  have e4 : (valV kvs key).isSome = (lookD kds (keyD key)).isSome := by
    rcases h2.look key with ⟨q1, q2⟩ | ⟨u, d, q1, q2, q3⟩ <;> rw [q1, q2] <;> rfl
  rw [e4]
  exact k F2 H2 _ [] (g1.trans g2) (by simpa using Own.dat (.bl _)) (by simp)
theorem en_dnotin {gd gi : Env → Option M} (hi : EP K ty gi) (hd : EP K td gd) : EN K (tDNotIn ty td) (nDIn true gi gd) := fun F H σ ρ as m Q hs so e k => by
  unfold nDIn at e
  split at e
  case h_2 => cases e
  rename_i k0 m0 e1 e2
  split at e
  case h_2 => cases e
  rename_i kds e3
  split at e
  case isFalse => cases e
  rename_i hk
  cases e
  refine hi F H σ ρ as _ _ hs so e1 fun F1 H1 iv rs g1 o1 => ?_
  refine hd F1 H1 σ ρ as _ _ g1.fh (so.grow g1) e2 fun F2 H2 v rs2 g2 o2 => ?_
  obtain ⟨a, kvs, rfl, h1, h2⟩ := o2.dic_rd g2.fh e3
  obtain ⟨key, rfl, rfl⟩ := o1.dat_inv.1.key hk
  refine ⟨a, valV kvs key, rfl, .inl ⟨kvs, key, h1, rfl, rfl⟩, ?_⟩
  have e4 : (valV kvs key).isSome = (lookD kds (keyD key)).isSome := by
    rcases h2.look key with ⟨q1, q2⟩ | ⟨u, d, q1, q2, q3⟩ <;> rw [q1, q2] <;> rfl
  rw [e4]
  exact k F2 H2 _ [] (g1.trans g2) (by simpa using Own.dat (.bl _)) (by simp)
/-- d.get(k, x) -/
def nDGet2 (gd gi gx : Env → Option M) : Env → Option M := fun ρ => match gd ρ, gi ρ, gx ρ with
  | some m, some (.dat k), some (.dat x) => (match dicOf m with
    | some kds => if isKey k then some (.dat ((lookD kds k).getD x)) else none
    | none => none)
  | _, _, _ => none
theorem en_dget2 {gd gi gx : Env → Option M} (hd : EP K td gd) (hi : EP K ty gi) (hx : EP K tx gx) : EN K (tDGet2 td ty tx) (nDGet2 gd gi gx) := fun F H σ ρ as m Q hs so e k => by
  unfold nDGet2 at e
  split at e
  case h_2 => cases e
  rename_i m0 k0 x0 e1 e2 e0
  split at e
  case h_2 => cases e
  rename_i kds e3
  split at e
  case isFalse => cases e
  rename_i hk
  cases e
  refine hd F H σ ρ as _ _ hs so e1 fun F1 H1 v rs g1 o1 => ?_
  obtain ⟨a, kvs, rfl, h1, h2⟩ := o1.dic_rd g1.fh e3
  refine ⟨a, rfl, .inl ⟨kvs, h1⟩, ?_⟩
  refine hi F1 H1 σ ρ as _ _ g1.fh (so.grow g1) e2 fun F2 H2 iv rs2 g2 o2 => ?_
  refine hx F2 H2 σ ρ as _ _ g2.fh (so.grow (g1.trans g2)) e0 fun F3 H3 xv rs3 g3 o3 => ?_
  obtain ⟨a', kvs', ea, h1, h2⟩ := ((o1.grow g2).grow g3).dic_rd g3.fh e3
  cases ea
  obtain ⟨key, rfl, rfl⟩ := o2.dat_inv.1.key hk
  refine ⟨valV kvs' key, .inl ⟨kvs', key, h1, rfl, rfl⟩, ?_⟩
  rcases h2.look key with ⟨q1, q2⟩ | ⟨u, d, q1, q2, q3⟩
  · rw [q1]
    rw [q2] at k
    exact k F3 H3 _ [] ((g1.trans g2).trans g3) (.dat o3.dat_inv.1) (by simp)
  · rw [q1]
    rw [q2] at k
    exact k F3 H3 _ [] ((g1.trans g2).trans g3) (.dat q3) (by simp)
/-- d[k] = v -/
def gDPut (ge : G D) (pf : Env → Option Pth) (gi : Env → Option M) : G Fl := gBind ge fun d ρ => match pf ρ with
  | some p => (match getP ρ p, gi ρ with
    | some (.dic kds), some (.dat k) => if isKey k = true ∧ kds.length < 100000 then some (.ok .nx (putP ρ p (.dic (putD kds k d)))) else none
    | _, _ => none)
  | none => none
theorem rn_dput {ge : G D} {pf : Env → Option Pth} {gi : Env → Option M} (he : EX K E kp tv ge) (hp : LP K td pf) (hi : EP K ty gi) : RN K E kp (sDPut td ty tv) (gDPut ge pf gi) := fun F H σ ρ as o D hs so e hx hpost => by
  refine he.use hs so e hx fun d ρ1 F1 H1 as1 w g1 so1 r e1 => ?_
  split at e1
  case h_2 => cases e1
  rename_i p e2
  split at e1
  case h_2 => cases e1
  rename_i kds k em ei
  split at e1
  case isFalse => cases e1
  rename_i hk
  refine hp F1 H1 σ ρ1 as1 p _ _ g1.fh so1 e2 em fun F2 H2 v bs g2 fo => ?_
  refine hi F2 H2 σ ρ1 as1 _ _ g2.fh (so1.grow g2) ei fun F3 H3 iv rs g3 ri => ?_
  have fo3 := fo.grow g3
  have ho := fo3.own
  obtain ⟨key, rfl, rfl⟩ := ri.dat_inv.1.key hk.1
  cases ho with
  | dic ha fa hv =>
    rename_i a kvs
    refine ⟨a, _, rfl, .inl ⟨kvs, key, ha, rfl, Nat.lt_of_lt_of_le (by rw [hv.len]; exact hk.2 : kvs.length < 100000) (by decide), rfl⟩, ?_⟩
    have gm : Gr F3 H3 [a] F3 (upd H3 a (.dK (putK kvs key w))) [a] := Gr.mut g3.fh fa (by simp)
    have own' : Own K F3 (upd H3 a (.dK (putK kvs key w))) (.ref a) (.dic (putD kds (keyD key) d)) [a] := .dic upd_same fa (hv.put ((r.mono g2.ff).mono g3.ff) key)
    obtain ⟨as', w1, w2, _⟩ := fo3.put' gm own'
    exact hpost.nx _ (Option.some.inj e1).symm F3 _ σ as' (.refl _) (g1.trans (((g2.trans g3).weak as1).trans w2)) w1
/-! ### list(range(..)) -/
theorem dvs_rng (a b : Int) : DVs K F (rgV a b) (rngD a (b - a).toNat) := by
  unfold rgV rngD
  generalize (List.range (b - a).toNat) = l
  induction l with
  | nil => exact .nil
  | cons x l ih => exact .cons (.int _) ih
def rgOk (a b : Int) : Bool := decide (-1000000 ≤ a ∧ a ≤ 1000000 ∧ -1000000 ≤ b ∧ b ≤ 1000000)
def fLRg2 : M → M → Option M
  | .dat (.int a), .dat (.int b) => if rgOk a b then some (.lst ((rngD a (b - a).toNat).map M.dat)) else none
  | _, _ => none
def fLRg1 : M → Option M
  | .dat (.int b) => if rgOk 0 b then some (.lst ((rngD 0 b.toNat).map M.dat)) else none
  | _ => none
theorem rgOk_ok {a b : Int} (h : rgOk a b = true) : RgOk a b := by
  have := of_decide_eq_true h
  exact ⟨by omega, by omega, by omega, by omega, by omega⟩
theorem en_lrg2 {tb : TE} {ga gb : Env → Option M} (ha : EP K te ga) (hb : EP K tb gb) : EN K (tLstRg (tRg2 te tb)) (n2 fLRg2 ga gb) := fun F H σ ρ as m Q hs so e k => by
  unfold n2 at e
  split at e
  case h_2 => cases e
  rename_i ma mb e1 e2
  unfold fLRg2 at e
  split at e
  case h_2 => cases e
  split at e
  case isFalse => cases e
  rename_i a b hr
  cases e
  refine ha F H σ ρ as _ _ hs so e1 fun F1 H1 v rs g1 o1 => ?_
  refine hb F1 H1 σ ρ as _ _ g1.fh (so.grow g1) e2 fun F2 H2 w rs2 g2 o2 => ?_
  refine ⟨a, b, o1.dat_inv.1.int_inv, o2.dat_inv.1.int_inv, rgOk_ok hr, ?_⟩
  exact new_list g2.fh (dvs_rng a b) fun F' H' u rs g o n => k F' H' u rs ((g1.trans g2).trans g) o fun z hz => back_none (g1.trans g2) (n z hz)
theorem en_lrg1 {ga : Env → Option M} (ha : EP K te ga) : EN K (tLstRg (tRg1 te)) (n1 fLRg1 ga) := fun F H σ ρ as m Q hs so e k => by
  unfold n1 at e
  split at e
  case h_2 => cases e
  rename_i ma e1
  unfold fLRg1 at e
  split at e
  case h_2 => cases e
  split at e
  case isFalse => cases e
  rename_i b hr
  cases e
  refine ha F H σ ρ as _ _ hs so e1 fun F1 H1 v rs g1 o1 => ?_
  refine ⟨b, o1.dat_inv.1.int_inv, rgOk_ok hr, ?_⟩
  have := dvs_rng (K := K) (F := F1) 0 b
  rw [Int.sub_zero] at this
  exact new_list g1.fh this fun F' H' u rs g o n => k F' H' u rs (g1.trans g) o fun z hz => back_none g1 (n z hz)
end
/-! ### a module's constants; room -/
section
variable {X : Cx}
theorem pe_globI {x : Str} {i : Int} {pos : Pos} (hg : Gl X x) (h : ∃ t, X.mg x = some (.int i t)) (hd : (x == ("__debug__" : Str)) = false := by decide) : PE X (.Name x pos) (tC (.int i)) := by
  obtain ⟨t, h⟩ := h
  exact pe_glob hg h ⟨t, rfl⟩ hd
theorem pe_globS {x z : Str} {pos : Pos} (hg : Gl X x) (h : ∃ t, X.mg x = some (.str z t)) (hd : (x == ("__debug__" : Str)) = false := by decide) : PE X (.Name x pos) (tC (.str z)) := by
  obtain ⟨t, h⟩ := h
  exact pe_glob hg h ⟨t, rfl⟩ hd
end
theorem hu1 {k : Nat} {A : Around} (hr : Room k A) : A.units + 1 < cLine := by have := hr.un; omega
end Y
/-! Y: an operation on what a slot owns and what an effect gives; asking the mirrors of dicts. -/
namespace Y
open PySem L2
variable [TabC]
section
variable {K : Kx} {E : XK} {kp : Nat → Bool} {F F' F1 F2 H H' H1 H2 : Hp} {as as' as1 as2 bs : List Addr} {σ σ' σ1 : L2.St} {ρ : Env} {te tb : TE}
/-- the left one is what a slot owns: it is read behind the right one's effects -/
def x2L (f : M → M → Option M) (i : Nat) (xb : G D) : G M := gBind xb fun d ρ => match getP ρ (.slot i) with
  | some m => (match f m (.dat d) with
    | some t => some (.ok t ρ)
    | none => none)
  | none => none
def gHas (i : Nat) (g : G M) : G M := fun ρ => match ρ[i]? with
  | some (some _) => g ρ
  | _ => none
theorem em_opL {r : R2} {f : M → M → Option M} {i : Nat} {xb : G D} (p : P2 K r f) (hb : EX K E kp tb xb) : EM K E kp (tOp r (tVar i) tb) (gHas i (x2L f i xb)) := fun F H σ ρ as o Q hs so e hx k => by
  unfold gHas at e
  split at e
  case h_2 => cases e
  rename_i m0 em0
  obtain ⟨v, ms, h1, _⟩ := so.at em0
  refine ⟨v, h1, ?_⟩
  refine hb.use hs so e hx fun d ρ1 F1 H1 as1 w g1 so1 r1 e1 => ?_
  split at e1
  case h_2 => cases e1
  rename_i m em
  split at e1
  case h_2 => cases e1
  rename_i t et
  obtain ⟨v', ms', q1, q2⟩ := foc_slot so1 em
  rw [h1] at q1
  cases q1
  refine p F1 H1 _ _ _ _ _ _ t _ g1.fh q2.own (.dat r1) et fun F' H' u rs g o n => ?_
  exact em_fin (t := t) so1 g1 (Option.some.inj e1).symm k F' H' u rs g o n
/-- the right one is pure, and may point into what is owned -/
def x2E (f : M → M → Option M) (xa : G D) (gb : Env → Option M) : G M := gBind xa fun d ρ => match gb ρ with
  | some m => (match f (.dat d) m with
    | some t => some (.ok t ρ)
    | none => none)
  | none => none
theorem em_opE {r : R2} {f : M → M → Option M} {xa : G D} {gb : Env → Option M} (p : P2 K r f) (ha : EX K E kp te xa) (hb : EP K tb gb) : EM K E kp (tOp r te tb) (x2E f xa gb) := fun F H σ ρ as o Q hs so e hx k => by
  refine ha.use hs so e hx fun d ρ1 F1 H1 as1 w g1 so1 r1 e1 => ?_
  split at e1
  case h_2 => cases e1
  rename_i m em
  split at e1
  case h_2 => cases e1
  rename_i t et
  refine hb F1 H1 σ ρ1 as1 _ _ g1.fh so1 em fun F2 H2 u rs g2 o2 => ?_
  refine p F2 H2 _ _ _ _ _ _ t _ g2.fh (.dat (r1.mono g2.ff)) o2 et fun F' H' u' rs' g o n => ?_
  exact em_fin (t := t) (so1.grow g2) (g1.trans (g2.weak as1)) (Option.some.inj e1).symm k F' H' u' rs' g o n
end
section
variable {ρ : Env} {Φ : M → Env → Prop} {Ψ : M → Prop}
@[simp] theorem T_x2L {f : M → M → Option M} {i : Nat} {xb : G D} : T (gHas i (x2L f i xb)) ρ Φ ↔ Tp (getS ρ i) fun _ => T xb ρ fun d ρ1 => Tp (getS ρ1 i) fun m => Tp (f m (.dat d)) fun t => Φ t ρ1 := by
  have key : ∀ (d : D) (ρ1 : Env), T (fun ρ => match getP ρ (.slot i) with
      | some m => (match f m (.dat d) with
        | some t => some (.ok t ρ)
        | none => none)
      | none => none) ρ1 Φ ↔ Tp (getS ρ1 i) fun m => Tp (f m (.dat d)) fun t => Φ t ρ1 := fun d ρ1 => by
    unfold T
    dsimp only
    simp only [getP_slot]
    cases getS ρ1 i with
    | none => simp
    | some m => simp only [Tp_some]; cases f m (.dat d) <;> simp
  rw [getS_eq]
  cases e : ρ[i]? with
  | none =>
    have h : gHas i (x2L f i xb) ρ = none := by simp [gHas, e]
    simp [T, h]
  | some x =>
    cases x with
    | none =>
      have h : gHas i (x2L f i xb) ρ = none := by simp [gHas, e]
      simp [T, h]
    | some m =>
      have h : gHas i (x2L f i xb) ρ = gBind xb (fun d ρ => match getP ρ (.slot i) with
        | some m => (match f m (.dat d) with
          | some t => some (.ok t ρ)
          | none => none)
        | none => none) ρ := by
        simp only [gHas, e]
        try rfl
      rw [T_congr h, T_bind]
      simp only [Tp_some]
      constructor <;> intro q <;> refine T.mono q fun d ρ1 z => ?_
      · exact (key d ρ1).mp z
      · exact (key d ρ1).mpr z
@[simp] theorem T_x2E {f : M → M → Option M} {xa : G D} {gb : Env → Option M} : T (x2E f xa gb) ρ Φ ↔ T xa ρ fun d ρ1 => Tp (gb ρ1) fun m => Tp (f (.dat d) m) fun t => Φ t ρ1 := by
  unfold x2E
  rw [T_bind]
  constructor <;> intro q <;> refine T.mono q fun d ρ1 z => ?_ <;> unfold T at * <;> (try dsimp only at *) <;> (cases e1 : gb ρ1 with
    | none => simp_all
    | some m => cases e2 : f (.dat d) m <;> simp_all)
@[simp] theorem dicOf_dic {kds : List (D × D)} : dicOf (.dic kds) = some kds := rfl
@[simp] theorem dicOf_dat {kds : List (D × D)} : dicOf (.dat (.dic kds)) = some kds := rfl
@[simp] theorem isKey_int {i : Int} : isKey (.int i) = true := rfl
@[simp] theorem isKey_str {s : List Nat} : isKey (.str s) = true := rfl
@[simp] theorem view_dic {kds : List (D × D)} : (M.dic kds).view = some (.dic kds) := rfl
@[simp] theorem Tp_nDGet {gd gi : Env → Option M} : Tp (nDGet gd gi ρ) Ψ ↔ Tp (gd ρ) fun m => Tp (gi ρ) fun k => Tp (asDat k) fun k => Tp (dicOf m) fun kds => isKey k = true ∧ Tp (lookD kds k) fun d => Ψ (.dat d) := by
  unfold nDGet
  cases gd ρ with
  | none => simp
  | some m =>
    cases gi ρ with
    | none => simp
    | some x =>
      cases x with
      | dat k =>
        simp only [Tp_some, asDat_dat]
        cases dicOf m with
        | none => simp
        | some kds =>
          by_cases h : isKey k = true
          · simp [h]
          · simp [h]
      | _ => simp [asDat]
@[simp] theorem Tp_nDIn {b : Bool} {gd gi : Env → Option M} : Tp (nDIn b gi gd ρ) Ψ ↔ Tp (gi ρ) fun k => Tp (asDat k) fun k => Tp (gd ρ) fun m => Tp (dicOf m) fun kds => isKey k = true ∧ Ψ (.dat (.bl (xor b (lookD kds k).isSome))) := by
  unfold nDIn
  cases gi ρ with
  | none => simp
  | some x =>
    cases x with
    | dat k =>
      cases gd ρ with
      | none => simp
      | some m =>
        simp only [Tp_some, asDat_dat]
        cases dicOf m with
        | none => simp
        | some kds =>
          by_cases h : isKey k = true
          · simp [h]
          · simp [h]
    | _ => simp [asDat]
@[simp] theorem Tp_nDGet2 {gd gi gx : Env → Option M} : Tp (nDGet2 gd gi gx ρ) Ψ ↔ Tp (gd ρ) fun m => Tp (gi ρ) fun k => Tp (asDat k) fun k => Tp (gx ρ) fun x => Tp (asDat x) fun x => Tp (dicOf m) fun kds => isKey k = true ∧ Ψ (.dat ((lookD kds k).getD x)) := by
  unfold nDGet2
  cases gd ρ with
  | none => simp
  | some m =>
    cases gi ρ with
    | none => simp
    | some y =>
      cases y with
      | dat k =>
        cases gx ρ with
        | none => simp
        | some x =>
          cases x with
          | dat x =>
            simp only [Tp_some, asDat_dat]
            cases dicOf m with
            | none => simp
            | some kds =>
              by_cases h : isKey k = true
              · simp [h]
              · simp [h]
          | _ => simp [asDat]
      | _ => simp [asDat]
def asDic : M → Option (List (D × D))
  | .dic kds => some kds
  | _ => none
@[simp] theorem asDic_dic {kds : List (D × D)} : asDic (.dic kds) = some kds := rfl
@[simp] theorem T_gDPut {ge : G D} {pf : Env → Option Pth} {gi : Env → Option M} {Φ : Fl → Env → Prop} : T (gDPut ge pf gi) ρ Φ ↔ T ge ρ fun d ρ1 => Tp (pf ρ1) fun p => Tp (getP ρ1 p) fun m => Tp (asDic m) fun kds => Tp (gi ρ1) fun k => Tp (asDat k) fun k => (isKey k = true ∧ kds.length < 100000) ∧ Φ .nx (putP ρ1 p (.dic (putD kds k d))) := by
  unfold gDPut
  rw [T_bind]
  constructor <;> intro q <;> refine T.mono q fun d ρ1 z => ?_ <;> unfold T at * <;> (try dsimp only at *) <;> (cases e1 : pf ρ1 with
    | none => simp_all
    | some p =>
      simp only [e1, Tp_some] at z ⊢
      cases e2 : getP ρ1 p with
      | none => simp_all
      | some m =>
        cases m with
        | dic kds =>
          cases e3 : gi ρ1 with
          | none => simp_all
          | some x =>
            cases x with
            | dat k =>
              by_cases h : isKey k = true ∧ kds.length < 100000
              · simp_all
              · simp_all
            | _ => simp_all [asDat]
        | _ => simp_all [asDic])
@[simp] theorem fLRg2_int {a b : Int} : fLRg2 (.dat (.int a)) (.dat (.int b)) = if rgOk a b then some (.lst ((rngD a (b - a).toNat).map M.dat)) else none := rfl
@[simp] theorem fLRg1_int {b : Int} : fLRg1 (.dat (.int b)) = if rgOk 0 b then some (.lst ((rngD 0 b.toNat).map M.dat)) else none := rfl
end
theorem kEq_iff {a b : D} (h : isKey a = true) : kEq a b = true ↔ a = b := by
  cases a with
  | int i => cases b <;> simp [kEq]
  | str i => cases b <;> simp [kEq]
  | _ => cases h
theorem lookD_nil {k : D} : lookD [] k = none := rfl
theorem lookD_cons {kv : D × D} {kds : List (D × D)} {k : D} : lookD (kv :: kds) k = if kEq kv.1 k = true then some kv.2 else lookD kds k := by
  unfold lookD
  rw [List.find?_cons]
  cases kEq kv.1 k <;> simp
theorem look_any {k : D} : ∀ {kds : List (D × D)}, (kds.any fun kv => kEq kv.1 k) = (lookD kds k).isSome
  | [] => rfl
  | kv :: kds => by
    rw [List.any_cons, lookD_cons, look_any]
    cases kEq kv.1 k <;> simp
theorem look_map {k k' v : D} (hk : isKey k = true) : ∀ {kds : List (D × D)}, (∀ kv ∈ kds, isKey kv.1 = true) → lookD (kds.map fun kv => if kEq kv.1 k = true then (kv.1, v) else kv) k' = if kEq k k' = true then (lookD kds k').map fun _ => v else lookD kds k'
  | [], _ => by simp [lookD_nil]
  | kv :: kds, h => by
    rw [List.map_cons, lookD_cons, lookD_cons, look_map hk fun x hx => h x (List.mem_cons_of_mem _ hx)]
    have h0 := h kv List.mem_cons_self
    by_cases e1 : kEq kv.1 k = true
    · have e := (kEq_iff h0).mp e1
      rw [if_pos e1]
      rw [e]
      by_cases e2 : kEq k k' = true
      · simp [e2]
      · simp [e2]
    · rw [if_neg e1]
      by_cases e2 : kEq k k' = true
      · have e := (kEq_iff hk).mp e2
        rw [← e]
        simp only [e1]
        rw [e] at e2 ⊢
        simp [e2]
      · simp [e2]
theorem look_app {kds : List (D × D)} {kv : D × D} {k' : D} : lookD (kds ++ [kv]) k' = (lookD kds k').or (if kEq kv.1 k' = true then some kv.2 else none) := by
  induction kds with
  | nil => simp [lookD_cons, lookD_nil]
  | cons x kds ih =>
    rw [List.cons_append, lookD_cons, lookD_cons, ih]
    split <;> simp
theorem look_put {kds : List (D × D)} {k k' v : D} (h : ∀ kv ∈ kds, isKey kv.1 = true) (hk : isKey k = true) : lookD (putD kds k v) k' = if kEq k k' = true then some v else lookD kds k' := by
  unfold putD
  split
  · rename_i ha
    rw [look_map hk h]
    by_cases e : kEq k k' = true
    · rw [if_pos e, if_pos e]
      rw [look_any] at ha
      have e' := (kEq_iff hk).mp e
      subst e'
      cases q : lookD kds k with
      | none => rw [q] at ha; cases ha
      | some d => rfl
    · rw [if_neg e, if_neg e]
  · rename_i ha
    rw [look_app]
    by_cases e : kEq k k' = true
    · have e' := (kEq_iff hk).mp e
      subst e'
      rw [look_any] at ha
      cases q : lookD kds k with
      | none => simp [e]
      | some d => rw [q] at ha; simp at ha
    · simp [e]
theorem put_keys {kds : List (D × D)} {k v : D} (h : ∀ kv ∈ kds, isKey kv.1 = true) (hk : isKey k = true) : ∀ kv ∈ putD kds k v, isKey kv.1 = true := fun kv hkv => by
  unfold putD at hkv
  split at hkv
  · obtain ⟨x, hx, rfl⟩ := List.mem_map.mp hkv
    split
    · exact h x hx
    · exact h x hx
  · rcases List.mem_append.mp hkv with z | z
    · exact h kv z
    · rw [List.mem_singleton.mp z]; exact hk
theorem put_len {kds : List (D × D)} {k v : D} : (putD kds k v).length ≤ kds.length + 1 := by
  unfold putD
  split <;> simp
end Y
/-! pages: mirrors (printed by gen.py), and what they answer -/
namespace Y
open PySem L2
def g_standings_B1 : G Fl :=
 (gThen (gDPut (xM (gMeth true 0 "told" F_Frames_told (vS 3) pNil)) (vS 4) (gV 5))
 (sDrop (gMeth true 0 "do" F_Frames_do (vS 3) (pCons (gV 1) (pCons (gV 5) (pCons (gV 6) (pCons (gV 7) pNil)))))))
def g_standings_K1 : G Fl :=
 (gThen (gDPut (xM (gMeth true 0 "told" F_Frames_told (vS 3) pNil)) (vS 4) (nL fLen (psCons (gV 1) psNil)))
 (sRet (gTake 4)))
def g_standings : G Fl :=
 (gThen (sSetM 3 (gMake true 0 F_Frames___init__ (xCons (xE (gV 0)) xNil)))
 (gThen (sSetM 4 (gOf (cM (.dic []))))
 (gThen (sFor (xItems (xE (gV 2))) (gToTup 5 (gToCons (gTo 5) (gToCons (gTo 6) (gToCons (gTo 7) (gToCons (gTo 8) (gToCons (gTo 9) gToNil))))))
 g_standings_B1)
 g_standings_K1)))
def F_standings : List M → Option Rr := ar 3 (defF 10 none g_standings)
theorem ni_standings (ms : List M) (o : Rr) (h : F_standings ms = some o) : defF 10 none g_standings ms = some o := ar_imp (fun _ _ h => h) ms o h

def g_Page_put : G Fl :=
 (gThen (gFSet 2 "now" (mE (xE (gV 1))) (vS 0))
 (gThen (gFSet 2 "read" (mE (xM (gCall true F_steps (xCons (xE (gP (gFld 2 "book" (vS 0)))) (xCons (xE (gV 1)) xNil))))) (vS 0))
 (gFSet 2 "stands" (mE (xM (gCall true F_standings (xCons (xE (gP (gFld 2 "book" (vS 0)))) (xCons (xE (gV 1)) (xCons (xE (gP (gFld 2 "read" (vS 0)))) xNil)))))) (vS 0))))
def F_Page_put : List M → Option Rr := ar 2 (defF 2 (some 0) g_Page_put)
theorem ni_Page_put (ms : List M) (o : Rr) (h : F_Page_put ms = some o) : defF 2 (some 0) g_Page_put ms = some o := ar_imp (fun _ _ h => h) ms o h

def g_Page_look_at : G Fl :=
 (sIf (gOf (tbOr (tB' (n2 fLt (gV 1) (cM (.dat (.int 0))))) (tbOr (tB' (n2 fLt (gV 2) (gV 1))) (tB' (n2 fGt (gV 2) (nL fLen (psCons (gP (gFld 2 "now" (vS 0))) psNil)))))))
 (fun _ => none)
 gSkip)
def F_Page_look_at : List M → Option Rr := ar 3 (defF 3 (some 0) g_Page_look_at)
theorem ni_Page_look_at (ms : List M) (o : Rr) (h : F_Page_look_at ms = some o) : defF 3 (some 0) g_Page_look_at ms = some o := ar_imp (fun _ _ h => h) ms o h

def g_Page_last_read_B1 : G Fl :=
 (sIf (gOf (tbAnd (tB' (nDIn false (gV 4) (gP (gFld 2 "stands" (vS 0))))) (tbAnd (tB' (nDIn false (n2 fSub (gV 4) (gV 2)) (gV 3))) (tB' (n2 fEq (nDGet (gP (gFld 2 "stands" (vS 0))) (gV 4)) (nDGet (gV 3) (n2 fSub (gV 4) (gV 2))))))))
 (sRet (mE (xE (gV 4))))
 gSkip)
def g_Page_last_read : G Fl :=
 (gThen (sFor (xRng2 (xCons (xE (gV 1)) (xCons (gView (n2 fAdd (nL fLen (psCons (gP (gFld 2 "now" (vS 0))) psNil)) (cM (.dat (.int 1))))) xNil))) (gTo 4)
 g_Page_last_read_B1)
 (sRet (gOf (nL fLen (psCons (gP (gFld 2 "now" (vS 0))) psNil)))))
def F_Page_last_read : List M → Option Rr := ar 4 (defF 5 (some 0) g_Page_last_read)
theorem ni_Page_last_read (ms : List M) (o : Rr) (h : F_Page_last_read ms = some o) : defF 5 (some 0) g_Page_last_read ms = some o := ar_imp (fun _ _ h => h) ms o h

def g_Page_change : G Fl :=
 (gThen (sDrop (gMeth true 2 "look_at" F_Page_look_at (vS 0) (pCons (gV 1) (pCons (gV 2) pNil))))
 (gThen (sIf (gOf (tB' (n2 fGt (n2 fAdd (n2 fSub (nL fLen (psCons (gP (gFld 2 "now" (vS 0))) psNil)) (n2 fSub (gV 2) (gV 1))) (nL fLen (psCons (gV 3) psNil))) (cM (.dat (.int 2000))))))
 (fun _ => none)
 gSkip)
 (gThen (sSet 4 (xM (gMethT true 1 "feed" F_Reader_feed (gMake true 1 F_Reader___init__ (xCons (xE (gP (gFld 2 "book" (vS 0)))) xNil)) (xCons (gView (nSl fSl (gP (gFld 2 "now" (vS 0))) oNo (oAt (gV 1)))) xNil))))
 (gThen (sSet 5 (gView (nL fSum (psCons (gCompP (pItems (gV 4)) (gTo 8) tbYes (n2 fIdx (gV 8) (cM (.dat (.int 1)))) [8]) psNil))))
 (gThen (sSet 6 (xE (gP (gFld 2 "stands" (vS 0)))))
 (gThen (gApp (gFld 2 "elder" (vS 0)) (gP (gFld 2 "now" (vS 0))))
 (gThen (sDrop (gMeth true 2 "put" F_Page_put (vS 0) (pCons (n2 fAdd (n2 fAdd (nSl fSl (gP (gFld 2 "now" (vS 0))) oNo (oAt (gV 1))) (gV 3)) (nSl fSl (gP (gFld 2 "now" (vS 0))) (oAt (gV 2)) oNo)) pNil)))
 (gThen (sSet 7 (gView (n2 fSub (nL fLen (psCons (gV 3) psNil)) (n2 fSub (gV 2) (gV 1)))))
 (sRet (mE (xTup (xCons (xE (gV 5)) (xCons (xM (gMeth true 2 "last_read" F_Page_last_read (vS 0) (pCons (n2 fAdd (gV 1) (nL fLen (psCons (gV 3) psNil))) (pCons (gV 7) (pCons (gV 6) pNil))))) xNil)))))))))))))
def F_Page_change : List M → Option Rr := ar 4 (defF 9 (some 0) g_Page_change)
theorem ni_Page_change (ms : List M) (o : Rr) (h : F_Page_change ms = some o) : defF 9 (some 0) g_Page_change ms = some o := ar_imp (fun _ _ h => h) ms o h

def g_Page_text : G Fl :=
 (sRet (mE (xE (gP (gFld 2 "now" (vS 0))))))
def F_Page_text : List M → Option Rr := ar 1 (defF 1 (some 0) g_Page_text)
theorem ni_Page_text (ms : List M) (o : Rr) (h : F_Page_text ms = some o) : defF 1 (some 0) g_Page_text ms = some o := ar_imp (fun _ _ h => h) ms o h

def g_Page_steps : G Fl :=
 (sRet (gOf (nL fList (psCons (gP (gFld 2 "read" (vS 0))) psNil))))
def F_Page_steps : List M → Option Rr := ar 1 (defF 1 (some 0) g_Page_steps)
theorem ni_Page_steps (ms : List M) (o : Rr) (h : F_Page_steps ms = some o) : defF 1 (some 0) g_Page_steps ms = some o := ar_imp (fun _ _ h => h) ms o h

def g_Page___init__ : G Fl :=
 (gThen (gFSet 2 "book" (mE (xE (gV 1))) (vS 0))
 (gThen (gFSet 2 "elder" (gOf (nLst pNil)) (vS 0))
 (sDrop (gMeth true 2 "put" F_Page_put (vS 0) (pCons (gV 2) pNil)))))
def F_Page___init__ : List M → Option Rr := ar 3 (defF 3 (some 0) g_Page___init__)
theorem ni_Page___init__ (ms : List M) (o : Rr) (h : F_Page___init__ ms = some o) : defF 3 (some 0) g_Page___init__ ms = some o := ar_imp (fun _ _ h => h) ms o h

def g_law_stands_B1 : G Fl :=
 (gThen (gDPut (gView (nL fTuple (psCons (gCompP (pItems (gV 3)) (gTo 6) tbYes (nSl fSl (gV 6) (oAt (cM (.dat (.int 1)))) oNo) [6]) psNil))) (vS 2) (gV 4))
 (gThen (sSet 5 (xM (gCallS true 1 F_law_fitting (gNext (xE (gV 0)) (gHere 3 (xCons (xE (gV 1)) (xCons (xE (gV 4)) xNil)))))))
 (sSet 4 (xM (x2 fAdd (xE (gV 4)) (xM (x2 fIdx (xM (gCallS true 1 F_law_step (gNext (xE (gV 0)) (gHere 3 (xCons (xE (gV 1)) (xCons (xE (gV 4)) (xCons (gView (nM1 fJoin (cM (.dat (.str (sc "")))) (nSl fSl (gV 5) oNo (oAt (cM (.dat (.int 1))))))) xNil))))))) (gView (cM (.dat (.int 1)))))))))))
def g_law_stands_K1 : G Fl :=
 (gThen (gDPut (gView (nL fTuple (psCons (gCompP (pItems (gV 3)) (gTo 6) tbYes (nSl fSl (gV 6) (oAt (cM (.dat (.int 1)))) oNo) [6]) psNil))) (vS 2) (nL fLen (psCons (gV 1) psNil)))
 (sRet (gTake 2)))
def g_law_stands : G Fl :=
 (gThen (sSetM 2 (gOf (cM (.dic []))))
 (gThen (sSetM 3 (gOf (nLst pNil)))
 (gThen (sSet 4 (gView (cM (.dat (.int 0)))))
 (gThen (gWhile (gOf (tB' (n2 fLt (gV 4) (nL fLen (psCons (gV 1) psNil)))))
 g_law_stands_B1 1000000)
 g_law_stands_K1))))
def F_law_stands : List M → Option Rr := ar 2 (defF 7 none g_law_stands)
theorem ni_law_stands (ms : List M) (o : Rr) (h : F_law_stands ms = some o) : defF 7 none g_law_stands ms = some o := ar_imp (fun _ _ h => h) ms o h

def g_law_anew_B1 : G Fl :=
 (sIf (gOf (tbAnd (tB' (nDIn false (gV 11) (gV 8))) (tbAnd (tB' (nDIn false (n2 fSub (gV 11) (gV 9)) (gV 7))) (tB' (n2 fEq (nDGet (gV 8) (gV 11)) (nDGet (gV 7) (n2 fSub (gV 11) (gV 9))))))))
 (sSet 10 (xE (gV 11)))
 gSkip)
def g_law_anew : G Fl :=
 (gThen (sSet 5 (gView (n2 fAdd (n2 fAdd (nSl fSl (gV 1) oNo (oAt (gV 2))) (gV 4)) (nSl fSl (gV 1) (oAt (gV 3)) oNo))))
 (gThen (sSet 6 (xM (xL fSum (xCons (xM (gComp (xItems (xM (gCall true F_law_sure (xCons (xE (gV 0)) (xCons (gView (nSl fSl (gV 1) oNo (oAt (gV 2)))) xNil))))) (gTo 12) tYesX (gView (n2 fIdx (gV 12) (cM (.dat (.int 1))))) [12])) xNil))))
 (gThen (sSet 7 (xM (gCall true F_law_stands (xCons (xE (gV 0)) (xCons (xE (gV 1)) xNil)))))
 (gThen (sSet 8 (xM (gCall true F_law_stands (xCons (xE (gV 0)) (xCons (xE (gV 5)) xNil)))))
 (gThen (sSet 9 (gView (n2 fSub (nL fLen (psCons (gV 4) psNil)) (n2 fSub (gV 3) (gV 2)))))
 (gThen (sSet 10 (gView (nL fLen (psCons (gV 5) psNil))))
 (gThen (sFor (xItems (gView (n1 fRev (n2 fLRg2 (n2 fAdd (gV 2) (nL fLen (psCons (gV 4) psNil))) (n2 fAdd (nL fLen (psCons (gV 5) psNil)) (cM (.dat (.int 1)))))))) (gTo 11)
 g_law_anew_B1)
 (sRet (gOf (nLst (pCons (gV 5) (pCons (nTup (pCons (gV 6) (pCons (gV 10) pNil))) pNil))))))))))))
def F_law_anew : List M → Option Rr := ar 5 (defF 13 none g_law_anew)
theorem ni_law_anew (ms : List M) (o : Rr) (h : F_law_anew ms = some o) : defF 13 none g_law_anew ms = some o := ar_imp (fun _ _ h => h) ms o h

def g_law_change : G Fl :=
 (gThen (sSet 3 (xM (gCallS true 0 F_law_take (gHere 0 (xCons (gView (n2 fAdd (nL fLen (psCons (gV 2) psNil)) (cM (.dat (.int 1))))) xNil)))))
 (gThen (sSet 4 (xM (xL fMin2 (xCons (gView (nL fLen (psCons (gV 2) psNil))) (xCons (xM (x2 fAdd (xE (gV 3)) (xM (x2 fIdx (xM (xLst (xCons (gView (cM (.dat (.int 0)))) (xCons (gView (cM (.dat (.int 1)))) (xCons (gView (cM (.dat (.int 2)))) (xCons (xM (gCallS true 0 F_law_take (gHere 0 (xCons (gView (cM (.dat (.int 30)))) xNil)))) (xCons (gView (cM (.dat (.int 0)))) xNil))))))) (xM (gCallS true 0 F_law_take (gHere 0 (xCons (gView (cM (.dat (.int 5)))) xNil)))))))) xNil)))))
 (gThen (sSet 5 (xM (x2 fIdx (xM (xLst (xCons (xM (gCallS true 0 F_law_text (gHere 0 (xCons (xE (gV 1)) (xCons (gView (cM (.dat (.int 3)))) xNil))))) (xCons (gView (cM (.dat (.str (sc ""))))) (xCons (gView (nSl fSl (gV 2) (oAt (gV 3)) (oAt (gV 4)))) (xCons (xM (gCallS true 0 F_law_text (gHere 0 (xCons (xE (gV 1)) (xCons (gView (cM (.dat (.int 12)))) xNil))))) xNil)))))) (xM (gCallS true 0 F_law_take (gHere 0 (xCons (gView (cM (.dat (.int 4)))) xNil)))))))
 (gThen (sIf (tX (xM (x2 fEq (xM (gCallS true 0 F_law_take (gHere 0 (xCons (gView (cM (.dat (.int 12)))) xNil)))) (gView (cM (.dat (.int 0)))))))
 (gThen (sSet 3 (gView (cM (.dat (.int 0)))))
 (sSet 4 (gView (nL fLen (psCons (gV 2) psNil)))))
 gSkip)
 (sRet (gOf (nLst (pCons (gV 3) (pCons (gV 4) (pCons (gV 5) pNil))))))))))
def F_law_change : List M → Option Rr := ar 3 (defF 6 (some 0) g_law_change)
theorem ni_law_change (ms : List M) (o : Rr) (h : F_law_change ms = some o) : defF 6 (some 0) g_law_change ms = some o := ar_imp (fun _ _ h => h) ms o h

section
variable {bk : Bk} {t : List Nat} {ds ds' : List D3} {acc acc' : List D} {p p' : Nat}
theorem Reach.back (hg : Good bk) (h : Reach bk t ds acc p) : ∀ n, n ≤ acc.length → ∃ ds1 acc1 p1, Reach bk t ds1 acc1 p1 ∧ acc1.length = n ∧ (n < acc.length → p1 < p) := by
  induction h with
  | zero => intro n hn; exact ⟨_, _, _, .zero, by simp at hn; simp [hn], fun z => by simp at z⟩
  | go h0 h1 ih =>
    rename_i ds0 acc0 p0
    intro n hn
    have hs := (step_facts hg (h0.run hg).d h1).1
    rw [List.length_append, List.length_singleton] at hn ⊢
    rcases Nat.lt_or_ge n (acc0.length + 1) with z | z
    · obtain ⟨ds1, acc1, p1, q1, q2, q3⟩ := ih n (by omega)
      refine ⟨ds1, acc1, p1, q1, q2, fun _ => ?_⟩
      by_cases e : n = acc0.length
      · obtain ⟨_, _, rfl⟩ := q1.det h0 (by omega)
        omega
      · have := q3 (by omega); omega
    · exact ⟨_, _, _, h0.go h1, by rw [List.length_append, List.length_singleton]; omega, fun q => by omega⟩
theorem Reach.at (hg : Good bk) (h : Reach bk t ds acc p) (h' : Reach bk t ds' acc' p) : ds = ds' ∧ acc = acc' := by
  rcases Nat.lt_trichotomy acc.length acc'.length with z | z | z
  · obtain ⟨ds1, acc1, p1, q1, q2, q3⟩ := h'.back hg acc.length (by omega)
    obtain ⟨_, _, rfl⟩ := q1.det h q2
    have := q3 z
    omega
  · obtain ⟨e1, e2, _⟩ := h.det h' z
    exact ⟨e1, e2⟩
  · obtain ⟨ds1, acc1, p1, q1, q2, q3⟩ := h.back hg acc'.length (by omega)
    obtain ⟨_, _, rfl⟩ := q1.det h' q2
    have := q3 z
    omega
/-- what the dict of standings has, of the steps ahead of the k-th -/
structure StK (bk : Bk) (t : List Nat) (k : Nat) (kds : List (D × D)) : Prop where
  key : ∀ kv ∈ kds, isKey kv.1 = true
  len : kds.length ≤ k
  look : ∀ (i : Int) (d : D), lookD kds (.int i) = some d ↔ ∃ ds acc p, Reach bk t ds acc p ∧ acc.length < k ∧ i = (p : Nat) ∧ d = .tup (ds.map toT)
  allI : ∀ kv ∈ kds, ∃ i : Int, kv.1 = .int i
theorem put_ints {kds : List (D × D)} {p : Int} {v : D} (h : ∀ kv ∈ kds, ∃ i : Int, kv.1 = .int i) : ∀ kv ∈ putD kds (.int p) v, ∃ i : Int, kv.1 = .int i := by
  intro kv hk
  unfold putD at hk
  split at hk
  · obtain ⟨kw, h1, rfl⟩ := List.mem_map.mp hk
    split <;> exact h kw h1
  · rcases List.mem_append.mp hk with z | z
    · exact h kv z
    · rw [List.mem_singleton] at z
      exact ⟨p, by rw [z]⟩
theorem stk0 : StK bk t 0 [] := ⟨by simp, Nat.le_refl _, fun i d => ⟨fun h => by simp [lookD_nil] at h, fun ⟨_, _, _, _, h, _⟩ => by omega⟩, by simp⟩
theorem StK.put (hg : Good bk) {kds : List (D × D)} (h : StK bk t acc.length kds) (hr : Reach bk t ds acc p) : StK bk t (acc.length + 1) (putD kds (.int p) (.tup (ds.map toT))) := by
  refine ⟨put_keys h.key rfl, Nat.le_trans put_len (by have := h.len; omega), fun i d => ?_, put_ints h.allI⟩
  rw [look_put h.key rfl]
  by_cases e : kEq (.int p) (.int i) = true
  · rw [if_pos e]
    have e' : (p : Int) = i := by simpa [kEq] using e
    constructor
    · intro z
      cases z
      exact ⟨ds, acc, p, hr, by omega, e'.symm, rfl⟩
    · rintro ⟨ds1, acc1, p1, q1, q2, q3, q4⟩
      have : p1 = p := by omega
      subst this
      obtain ⟨rfl, rfl⟩ := hr.at hg q1
      rw [q4]
  · rw [if_neg e, h.look]
    constructor
    · rintro ⟨ds1, acc1, p1, q1, q2, q3⟩
      exact ⟨ds1, acc1, p1, q1, by omega, q3⟩
    · rintro ⟨ds1, acc1, p1, q1, q2, q3, q4⟩
      refine ⟨ds1, acc1, p1, q1, ?_, q3, q4⟩
      rcases Nat.lt_or_ge acc1.length acc.length with z | z
      · exact z
      · obtain ⟨_, _, rfl⟩ := q1.det hr (by omega)
        exact absurd (by rw [q3]; simp [kEq]) e
/-- the dict of all standings -/
structure IsSt (bk : Bk) (t : List Nat) (kds : List (D × D)) : Prop where
  key : ∀ kv ∈ kds, isKey kv.1 = true
  len : kds.length ≤ t.length + 1
  look : ∀ (i : Int) (d : D), lookD kds (.int i) = some d ↔ ∃ ds acc p, Reach bk t ds acc p ∧ i = (p : Nat) ∧ d = .tup (ds.map toT)
  allI : ∀ kv ∈ kds, ∃ i : Int, kv.1 = .int i
theorem Reach.le (hg : Good bk) (h : Reach bk t ds acc p) (h' : Reach bk t ds' acc' t.length) : acc.length ≤ acc'.length := by
  rcases Nat.lt_or_ge acc'.length acc.length with z | z
  · obtain ⟨ds1, acc1, p1, q1, q2, q3⟩ := h.back hg acc'.length (by omega)
    obtain ⟨_, _, rfl⟩ := q1.det h' q2
    have := q3 z
    have := (h.run hg).q
    omega
  · exact z
theorem StK.all (hg : Good bk) {kds : List (D × D)} (h : StK bk t (acc.length + 1) kds) (hr : Reach bk t ds acc t.length) : IsSt bk t kds := by
  refine ⟨h.key, ?_, fun i d => ?_, h.allI⟩
  · have := h.len
    have := (hr.run hg).a
    omega
  · rw [h.look]
    constructor
    · rintro ⟨ds1, acc1, p1, q1, q2, q3⟩
      exact ⟨ds1, acc1, p1, q1, q3⟩
    · rintro ⟨ds1, acc1, p1, q1, q3⟩
      have := q1.le hg hr
      exact ⟨ds1, acc1, p1, q1, by omega, q3⟩
theorem IsSt.same {kds kes : List (D × D)} (h : IsSt bk t kds) (h' : IsSt bk t kes) (i : Int) : lookD kds (.int i) = lookD kes (.int i) := by
  cases e : lookD kds (.int i) with
  | none =>
    cases e' : lookD kes (.int i) with
    | none => rfl
    | some d =>
      rw [h'.look, ← h.look, e] at e'
      cases e'
  | some d =>
    rw [h.look, ← h'.look] at e
    exact e.symm
theorem IsSt.ok (hg : Good bk) {kds : List (D × D)} (h : IsSt bk t kds) {i : Int} {d : D} (e : lookD kds (.int i) = some d) : ∃ l, d = .tup l ∧ ∀ x ∈ l, okE 59 x = true := by
  obtain ⟨ds, acc, p, q1, _, rfl⟩ := (h.look i d).mp e
  refine ⟨_, rfl, fun x hx => ?_⟩
  obtain ⟨d, hd, rfl⟩ := List.mem_map.mp hx
  have := ((q1.run hg).d.c d hd).c
  simp [toT]
  exact this
end
structure SgI (bk : Bk) (t : List Nat) (R rest : List D) (ρ : Env) : Prop where
  env : ∃ ds acc p kds x5 x6 x7 x8 x9, ρ = [some (.dat (toBk bk)), some (.dat (.str t)), some (.dat (.lst R)), some (frO bk (dls ds)), some (.dic kds), x5, x6, x7, x8, x9] ∧ R = acc ++ rest ∧ Reach bk t ds acc p ∧ StK bk t acc.length kds
theorem standings_ok {bk : Bk} {t : List Nat} (hg : Good bk) (ht : TOk t) {Φ : M → Option M → Prop} (k : ∀ kds, IsSt bk t kds → Φ (.dic kds) none) : TF F_standings [.dat (toBk bk), .dat (.str t), .dat (.lst (runS bk t t.length [] 0).1)] Φ := by
  have htl := ht.l
  have hall := reach_all (t := t) hg
  refine TF_B rfl ?_
  simp [g_standings, start0]
  refine init_ok ?_
  simp
  refine T_forL (SgI bk t (runS bk t t.length [] 0).1) ?_ ?_ ⟨[], [], 0, [], _, _, _, _, _, rfl, rfl, .zero, stk0⟩
  · rintro d rest ρ ⟨ds, acc, p, kds, x5, x6, x7, x8, x9, rfl, e, hr, hk⟩
    obtain ⟨ds2, p2, hr2, hp, ed⟩ := hall.mid e
    obtain ⟨rfl, _, rfl⟩ := hr2.det hr rfl
    have hru := hr.run hg
    have hdn := hru.d.n
    have hq := hru.q
    have ha := hru.a
    have hkl := hk.len
    obtain ⟨to, dep, es⟩ := stepS_word (bk := bk) (ds := ds2) (t := t) (p := p2)
    have e2 : (runS bk t t.length [] 0).1 = (acc ++ [(stepS bk ds2 t p2).1.1]) ++ rest := by rw [e, ed]; simp
    have hput := hk.put hg hr
    have hgo := hr.go hp
    subst ed
    rw [es]
    simp [tupS]
    simp [g_standings_B1]
    refine told_ok (by omega) ?_
    simp
    refine ⟨by omega, do_ok hg hru.d ht hp ?_⟩
    simp
    exact ⟨_, _, _, _, _, _, _, _, _, rfl, e2, hgo, by simpa using hput⟩
  · rintro ρ ⟨ds, acc, p, kds, x5, x6, x7, x8, x9, rfl, e, hr, hk⟩
    rw [List.append_nil] at e
    obtain ⟨rfl, _, rfl⟩ := hall.det (e ▸ hr) rfl
    have hru := hall.run hg
    have hdn := hru.d.n
    have hkl := hk.len
    have ha := (hr.run hg).a
    simp [g_standings_K1]
    refine told_ok (by omega) ?_
    simp
    exact ⟨by omega, by omega, k _ ((hk.put hg hr).all hg hr)⟩
/-! ### the page -/
abbrev stp (bk : Bk) (t : List Nat) : List D := (runS bk t t.length [] 0).1
def pgO (bk : Bk) (el : List (List Nat)) (t : List Nat) (kds : List (D × D)) : M := .obj 2 [("book", .dat (toBk bk)), ("elder", .lst (txs el)), ("now", .dat (.str t)), ("read", .dat (.lst (stp bk t))), ("stands", .dat (.dic kds))]
section
variable {bk : Bk} {el el' : List (List Nat)} {t : List Nat} {kds : List (D × D)} {m : M}
theorem nmP : (("elder" : Str) = "book") = False ∧ (("now" : Str) = "book") = False ∧ (("now" : Str) = "elder") = False ∧ (("read" : Str) = "book") = False ∧ (("read" : Str) = "elder") = False ∧ (("read" : Str) = "now") = False ∧ (("stands" : Str) = "book") = False ∧ (("stands" : Str) = "elder") = False ∧ (("stands" : Str) = "now") = False ∧ (("stands" : Str) = "read") = False := by decide
theorem nmP' : (("book" : Str) = "elder") = False ∧ (("book" : Str) = "now") = False ∧ (("elder" : Str) = "now") = False ∧ (("book" : Str) = "read") = False ∧ (("elder" : Str) = "read") = False ∧ (("now" : Str) = "read") = False ∧ (("book" : Str) = "stands") = False ∧ (("elder" : Str) = "stands") = False ∧ (("now" : Str) = "stands") = False ∧ (("read" : Str) = "stands") = False := by decide
@[simp] theorem pgO_book : stepM (pgO bk el t kds) "book" = some (.dat (toBk bk)) := by simp [pgO]
@[simp] theorem pgO_elder : stepM (pgO bk el t kds) "elder" = some (.lst (txs el)) := by simp [pgO, nmP]
@[simp] theorem pgO_now : stepM (pgO bk el t kds) "now" = some (.dat (.str t)) := by simp [pgO, nmP]
@[simp] theorem pgO_read : stepM (pgO bk el t kds) "read" = some (.dat (.lst (stp bk t))) := by simp [pgO, nmP]
@[simp] theorem pgO_stands : stepM (pgO bk el t kds) "stands" = some (.dat (.dic kds)) := by simp [pgO, nmP]
theorem pgO_put : putFld (.lst (txs el')) "elder" (pgO bk el t kds) = pgO bk el' t kds := by simp [pgO, nmP']
@[simp] theorem pgO_is : (∃ fs, pgO bk el t kds = .obj 2 fs) ↔ True := by simp [pgO]
theorem pgO_m {x : Str} (h1 : (x = "book") = False) (h2 : (x = "elder") = False) (h3 : (x = "now") = False) (h4 : (x = "read") = False) (h5 : (x = "stands") = False) : (∃ fs, pgO bk el t kds = .obj 2 fs ∧ lookM x fs = none) ↔ True := by
  simp only [iff_true]
  exact ⟨_, rfl, by simp [h1, h2, h3, h4, h5]⟩
@[simp] theorem pgO_mput : (∃ fs, pgO bk el t kds = .obj 2 fs ∧ lookM "put" fs = none) ↔ True := pgO_m (by decide) (by decide) (by decide) (by decide) (by decide)
@[simp] theorem pgO_mlook : (∃ fs, pgO bk el t kds = .obj 2 fs ∧ lookM "look_at" fs = none) ↔ True := pgO_m (by decide) (by decide) (by decide) (by decide) (by decide)
@[simp] theorem pgO_mlast : (∃ fs, pgO bk el t kds = .obj 2 fs ∧ lookM "last_read" fs = none) ↔ True := pgO_m (by decide) (by decide) (by decide) (by decide) (by decide)
@[simp] theorem pgO_mchange : (∃ fs, pgO bk el t kds = .obj 2 fs ∧ lookM "change" fs = none) ↔ True := pgO_m (by decide) (by decide) (by decide) (by decide) (by decide)
@[simp] theorem pgO_mback : (∃ fs, pgO bk el t kds = .obj 2 fs ∧ lookM "take_back" fs = none) ↔ True := pgO_m (by decide) (by decide) (by decide) (by decide) (by decide)
@[simp] theorem pgO_mtext : (∃ fs, pgO bk el t kds = .obj 2 fs ∧ lookM "text" fs = none) ↔ True := pgO_m (by decide) (by decide) (by decide) (by decide) (by decide)
@[simp] theorem pgO_msteps : (∃ fs, pgO bk el t kds = .obj 2 fs ∧ lookM "steps" fs = none) ↔ True := pgO_m (by decide) (by decide) (by decide) (by decide) (by decide)
@[simp] theorem pgO_mat : (∃ fs, pgO bk el t kds = .obj 2 fs ∧ lookM "standing_at" fs = none) ↔ True := pgO_m (by decide) (by decide) (by decide) (by decide) (by decide)
end
theorem stp_ok {bk : Bk} {t : List Nat} (hg : Good bk) : (∀ x ∈ stp bk t, okE 59 x = true) ∧ (stp bk t).length ≤ t.length := by
  have hr := (reach_all (t := t) hg).run hg
  exact ⟨fun x hx => okE_mono (by decide) (hr.k x hx), hr.a⟩
theorem put_ok {bk : Bk} {el : List (List Nat)} {t : List Nat} (hg : Good bk) (ht : TOk t) {fs : List (Str × M)} (hf : fs = ([(("book" : Str), M.dat (toBk bk)), (("elder" : Str), M.lst (txs el))] : List (Str × M)) ∨ ∃ t0 k0, M.obj 2 fs = pgO bk el t0 k0)
    {Φ : M → Option M → Prop} (k : ∀ kds, IsSt bk t kds → Φ (.dat .non) (some (pgO bk el t kds))) : TF F_Page_put [.obj 2 fs, .dat (.str t)] Φ := by
  refine TF_B rfl ?_
  have hs := (stp_ok (bk := bk) (t := t) hg).2
  rcases hf with rfl | ⟨t0, k0, e⟩
  · simp [g_Page_put, start0, nmP, nmP']
    refine steps_ok hg ht fun _ => ?_
    simp [nmP, nmP']
    refine standings_ok hg ht fun kds hk => ?_
    simp [nmP, nmP']
    exact k kds hk
  · have e2 := M.obj.inj e
    obtain ⟨_, rfl⟩ := e2
    simp [g_Page_put, start0, nmP, nmP']
    refine steps_ok hg ht fun _ => ?_
    simp [nmP, nmP']
    refine standings_ok hg ht fun kds hk => ?_
    simp [nmP, nmP']
    exact k kds hk
theorem page_ok {bk : Bk} {t : List Nat} (hg : Good bk) (ht : TOk t) {Φ : M → Option M → Prop} (k : ∀ kds, IsSt bk t kds → Φ (.dat .non) (some (pgO bk [] t kds))) : TF F_Page___init__ [.obj 2 [], .dat (toBk bk), .dat (.str t)] Φ := by
  refine TF_B rfl ?_
  simp [g_Page___init__, start0, nmP, nmP']
  refine ⟨by simp only [show (("put" : Str) = "book") = False by decide, show (("put" : Str) = "elder") = False by decide, if_false], put_ok (el := []) hg ht (.inl rfl) fun kds hk => ?_⟩
  exact k kds hk
theorem ptext_ok {bk : Bk} {el : List (List Nat)} {t : List Nat} {kds : List (D × D)} {Φ : M → Option M → Prop} (k : Φ (.dat (.str t)) (some (pgO bk el t kds))) : TF F_Page_text [pgO bk el t kds] Φ := by
  refine TF_B rfl ?_
  simp [g_Page_text, start0]
  exact k
theorem psteps_ok {bk : Bk} {el : List (List Nat)} {t : List Nat} {kds : List (D × D)} {Φ : M → Option M → Prop} (k : Φ (.lst ((stp bk t).map M.dat)) (some (pgO bk el t kds))) : TF F_Page_steps [pgO bk el t kds] Φ := by
  refine TF_B rfl ?_
  simp [g_Page_steps, start0]
  exact k
theorem look_at_ok {bk : Bk} {el : List (List Nat)} {t : List Nat} {kds : List (D × D)} {b e : Int} (ht : TOk t) (h0 : 0 ≤ b) (h1 : b ≤ e) (h2 : e ≤ t.length) {Φ : M → Option M → Prop} (k : Φ (.dat .non) (some (pgO bk el t kds))) : TF F_Page_look_at [pgO bk el t kds, .dat (.int b), .dat (.int e)] Φ := by
  have := ht.l
  refine TF_B rfl ?_
  simp [g_Page_look_at, start0]
  exact ⟨fun _ => by omega, fun _ => ⟨fun _ => by omega, fun _ => ⟨by omega, fun _ => by omega, fun _ => k⟩⟩⟩
/-- whether the elder steps go on from a place on -/
def goodAt (kn ko : List (D × D)) (more p : Int) : Bool := match lookD kn (.int p), lookD ko (.int (p - more)) with
  | some a, some b => peq a b
  | _, _ => false
def lastP (kn ko : List (D × D)) (more least : Int) (n : Nat) (len : Int) : Int := (((List.range n).map fun (i : Nat) => least + (i : Int)).find? (goodAt kn ko more)).getD len
structure LrI (bk : Bk) (el : List (List Nat)) (t : List Nat) (kn ko : List (D × D)) (more : Int) (x1 : Option M) (L : List Int) (rest : List Int) (ρ : Env) : Prop where
  env : ∃ x4, ρ = [some (pgO bk el t kn), x1, some (.dat (.int more)), some (.dat (.dic ko)), x4] ∧ L.find? (goodAt kn ko more) = rest.find? (goodAt kn ko more)
theorem good_none {kn ko : List (D × D)} {more p : Int} (h : (lookD kn (.int p)).isSome = false ∨ (lookD ko (.int (p - more))).isSome = false) : goodAt kn ko more p = false := by
  unfold goodAt
  cases e1 : lookD kn (.int p) with
  | none => rfl
  | some a =>
    cases e2 : lookD ko (.int (p - more)) with
    | none => rfl
    | some b => rw [e1, e2] at h; simp at h
theorem good_T {bk : Bk} {t t0 : List Nat} {kn ko : List (D × D)} (hg : Good bk) (hn : IsSt bk t kn) (ho : IsSt bk t0 ko) {more p : Int} {Ψ : Bool → Prop} (k : Ψ (goodAt kn ko more p)) (h1 : (lookD kn (.int p)).isSome = true) (h2 : (lookD ko (.int (p - more))).isSome = true) : Tp (lookD kn (.int p)) fun a => Tp (lookD ko (.int (p - more))) fun b => Tp (eqD a b) Ψ := by
  unfold goodAt at k
  cases e1 : lookD kn (.int p) with
  | none => rw [e1] at h1; cases h1
  | some a =>
    cases e2 : lookD ko (.int (p - more)) with
    | none => rw [e2] at h2; cases h2
    | some b =>
      rw [e1, e2] at k
      obtain ⟨l1, rfl, q1⟩ := hn.ok hg e1
      obtain ⟨l2, rfl, q2⟩ := ho.ok hg e2
      simp only [Tp_some]
      rw [eqD_tup]
      simp only [peq] at k
      refine ⟨⟨?_, ?_⟩, k⟩ <;> simp <;> assumption
theorem last_read_ok {bk : Bk} {el : List (List Nat)} {t t0 : List Nat} {kn ko : List (D × D)} {more least : Int} (hg : Good bk) (ht : TOk t) (hn : IsSt bk t kn) (ho : IsSt bk t0 ko) (h0 : 0 ≤ least) (h1 : least ≤ t.length) {Φ : M → Option M → Prop} (k : Φ (.dat (.int (lastP kn ko more least ((t.length : Int) + 1 - least).toNat t.length))) (some (pgO bk el t kn))) :
    TF F_Page_last_read [pgO bk el t kn, .dat (.int least), .dat (.int more), .dat (.dic ko)] Φ := by
  have := ht.l
  refine TF_B rfl ?_
  simp [g_Page_last_read, start0]
  refine ⟨by omega, ⟨by omega, by omega, by omega, by omega⟩, ?_⟩
  unfold lastP at k
  rw [show rngD least ((t.length : Int) + 1 - least).toNat = ((List.range ((t.length : Int) + 1 - least).toNat).map fun (i : Nat) => least + (i : Int)).map D.int by unfold rngD; rw [List.map_map]; rfl]
  generalize (List.range ((t.length : Int) + 1 - least).toNat).map (fun (i : Nat) => least + (i : Int)) = L at *
  refine T_forL (fun rest ρ => ∃ r, rest = r.map D.int ∧ LrI bk el t kn ko more (some (.dat (.int least))) L r ρ) ?_ ?_ ⟨L, rfl, _, rfl, rfl⟩
  · rintro d rest ρ ⟨r, er, ⟨x4, rfl, e⟩⟩
    cases r with
    | nil => cases er
    | cons p r =>
      simp only [List.map_cons, List.cons.injEq] at er
      obtain ⟨rfl, rfl⟩ := er
      rw [List.find?_cons] at e
      simp [g_Page_last_read_B1]
      have no : goodAt kn ko more p = false → ∃ r_1, r.map D.int = r_1.map D.int ∧ LrI bk el t kn ko more (some (.dat (.int least))) L r_1 [some (pgO bk el t kn), some (.dat (.int least)), some (.dat (.int more)), some (.dat (.dic ko)), some (.dat (.int p))] := fun z => by
        rw [z] at e
        exact ⟨r, rfl, _, rfl, e⟩
      refine ⟨fun q1 => ⟨fun q2 => good_T (more := more) hg hn ho ⟨fun z => ?_, no⟩ q1 q2, fun q2 => no (good_none (.inr (by rw [q2]; rfl)))⟩, fun q1 => no (good_none (.inl (by rw [q1]; rfl)))⟩
      rw [z] at e
      rw [e] at k
      exact k
  · rintro ρ ⟨r, er, ⟨x4, rfl, e⟩⟩
    have : r = [] := by simpa using er.symm
    subst this
    rw [e] at k
    simp
    exact ⟨by omega, k⟩
theorem change_ok {bk : Bk} {el : List (List Nat)} {t put : List Nat} {ko : List (D × D)} {b e : Nat} (hg : Good bk) (ht : TOk t) (ht2 : t.length ≤ 2000) (hel : el.length ≤ 50000) (hp : ∀ c ∈ put, c < 1114112) (ho : IsSt bk t ko) (h1 : b ≤ e) (h2 : e ≤ t.length) (h3 : t.length - (e - b) + put.length ≤ 2000)
    {Φ : M → Option M → Prop} (k : ∀ ds l p kn, SReach bk (t.take b) ds l p → Stuck bk (t.take b) ds p → IsSt bk (t.take b ++ put ++ t.drop e) kn → Φ (.dat (.tup [.int p, .int (lastP kn ko ((put.length : Int) - (e - b)) (b + put.length) ((t.length : Int) + 1 - e).toNat ((t.take b ++ put ++ t.drop e).length : Nat))])) (some (pgO bk (el ++ [t]) (t.take b ++ put ++ t.drop e) kn))) :
    TF F_Page_change [pgO bk el t ko, .dat (.int b), .dat (.int e), .dat (.str put)] Φ := by
  have htl := ht.l
  have htb : TOk (t.take b) := ⟨by rw [List.length_take]; omega, fun c hc => ht.c c (List.mem_of_mem_take hc)⟩
  have hnl : (t.take b ++ put ++ t.drop e).length = t.length - (e - b) + put.length := by
    rw [List.length_append, List.length_append, List.length_take, List.length_drop]; omega
  have htn : TOk (t.take b ++ put ++ t.drop e) := ⟨by omega, fun c hc => by
    rcases List.mem_append.mp hc with z | z
    · rcases List.mem_append.mp z with z | z
      · exact htb.c c z
      · exact hp c z
    · exact ht.c c (List.mem_of_mem_drop z)⟩
  refine TF_B rfl ?_
  simp [g_Page_change, start0]
  refine look_at_ok ht (by omega) (by omega) (by omega) ?_
  simp
  refine ⟨by omega, by omega, fun z => by omega, fun _ => reader_ok ?_⟩
  simp
  rw [cutD_hi (by omega), Int.toNat_natCast]
  refine ⟨by omega, feed_ok (t := []) hg (by simpa using htb) .zero fun ds l p hr hs => ?_⟩
  rw [List.nil_append] at hr hs
  rw [List.nil_append] at hr
  have hra := (hr.reach.run hg).a
  have hrq := (hr.reach.run hg).q
  simp
  refine Tp_of (gLcP_id (h := fun d => .int (manyD d)) fun d hd => ?_) ⟨by simp; rw [List.length_take] at hrq; omega, ?_⟩
  · obtain ⟨p, many, w, to, dep, rfl⟩ := hr.reach.shape d hd
    simp [tupS, manyD]
  · rw [fSum_many, hr.reach.many]
    simp
    rw [show (M.lst (txs el ++ [M.dat (D.str t)])) = .lst (txs (el ++ [t])) by rw [txs_app]; rfl, pgO_put]
    simp
    rw [cutD_hi (by omega), cutD_lo (by omega), Int.toNat_natCast, Int.toNat_natCast]
    rw [List.length_append, List.length_append, List.length_take, List.length_drop] at hnl
    rw [List.length_take] at hrq
    refine ⟨by omega, by omega, by rw [List.length_take]; omega, by omega, by rw [List.length_take, List.length_drop]; omega, ?_⟩
    rw [← List.append_assoc]
    refine put_ok hg htn (.inr ⟨t, ko, rfl⟩) fun kn hk => ?_
    simp
    refine ⟨by omega, ?_⟩
    rw [← List.append_assoc]
    refine last_read_ok hg htn hk ho (by omega) (by rw [List.length_append, List.length_append, List.length_take, List.length_drop]; omega) ?_
    have := k ds l p kn hr hs hk
    rw [show (((t.take b ++ put ++ t.drop e).length : Int) + 1 - ((b : Int) + put.length)).toNat = ((t.length : Int) + 1 - e).toNat by rw [List.length_append, List.length_append, List.length_take, List.length_drop]; omega]
    simpa using this
/-! ### what the law reckons -/
structure LstI (bk : Bk) (t : List Nat) (m : Nat) (ρ : Env) : Prop where
  env : ∃ ds acc p kds x5 x6, ρ = [some (.dat (toBk bk)), some (.dat (.str t)), some (.dic kds), some (dls ds), some (.dat (.int (p : Nat))), x5, x6] ∧ Reach bk t ds acc p ∧ StK bk t acc.length kds ∧ m = t.length - p
theorem law_stands_ok {bk : Bk} {t : List Nat} (hg : Good bk) (ht : TOk t) {Φ : M → Option M → Prop} (k : ∀ kds, IsSt bk t kds → Φ (.dic kds) none) : TF F_law_stands [.dat (toBk bk), .dat (.str t)] Φ := by
  have htl := ht.l
  refine TF_B rfl ?_
  simp [g_law_stands, start0]
  refine T_whileL (LstI bk t) ?_ 1000000 t.length _ ⟨[], [], 0, [], _, _, rfl, .zero, stk0, by simp⟩ (by omega)
  rintro m ρ ⟨ds, acc, p, kds, x5, x6, rfl, hr, hk, rfl⟩
  have hru := hr.run hg
  have hc := cand_ok hg hru.d
  have hdn := hru.d.n
  have hq := hru.q
  have ha := hru.a
  have hkl := hk.len
  simp
  refine ⟨by omega, fun hp => ?_, fun hp => ?_⟩
  · have hput := hk.put hg hr
    have hgo := hr.go hp
    obtain ⟨to, dep, es⟩ := stepS_word (bk := bk) (ds := ds) (t := t) (p := p)
    obtain ⟨h1, h2, h3⟩ := step_facts hg hru.d hp
    simp [g_law_stands_B1]
    refine Tp_of (gLcP_all (h := toT) fun d hd => by simp [toD3, cutD_lo, toT]) ⟨by simp; omega, by omega, ?_⟩
    refine fitting_ok hg hru.d ht ?_
    simp
    rw [← List.map_reverse]
    refine Tp_views_comp.mpr ?_
    rw [cutD_hi (by decide), show (1 : Int).toNat = 1 from rfl, ← List.map_take, List.map_map, join_best (l := fitL bk ds t p) fun m hm => (hc.1 m (List.mem_filter.mp hm).1).l]
    simp only [Tp_some, view_dat]
    refine step_ok hg hru.d (Nat.le_trans hru.q htl) ht hp ?_
    rw [es]
    rw [es] at hgo
    simp [tupS]
    exact ⟨t.length - (p + (stepS bk ds t p).1.2), by omega, _, _, _, _, _, _, by rw [Int.natCast_add], hgo, by simpa using hput, rfl⟩
  · have e : p = t.length := by omega
    subst e
    simp [g_law_stands_K1]
    refine Tp_of (gLcP_all (h := toT) fun d hd => by simp [toD3, cutD_lo, toT]) ⟨by simp; omega, by omega, by omega, ?_⟩
    exact k _ ((hk.put hg hr).all hg hr)
theorem fSum_manyD {L : List D} : fSum [.dat (.lst (L.map fun d => D.int (manyD d)))] = some (.dat (.int (L.map manyD).sum)) := by
  have e : (L.map fun d => D.int (manyD d)) = (L.map manyD).map D.int := by rw [List.map_map]; rfl
  simp only [fSum, litems, e, ints_map]
structure AnI (x0 x1 x2 x3 x4 x5 x6 : Option M) (kn ko : List (D × D)) (more len : Int) (L : List Int) (rest : List D) (ρ : Env) : Prop where
  env : ∃ pre suf last x11 x12, ρ = [x0, x1, x2, x3, x4, x5, x6, some (.dat (.dic ko)), some (.dat (.dic kn)), some (.dat (.int more)), some (.dat (.int last)), x11, x12] ∧ L = pre ++ suf ∧ rest = (pre.reverse).map D.int ∧ last = (suf.find? (goodAt kn ko more)).getD len
theorem law_anew_ok {bk : Bk} {t put : List Nat} {b e : Nat} (hg : Good bk) (ht : TOk t) (ht2 : t.length ≤ 2000) (hp : ∀ c ∈ put, c < 1114112) (h1 : b ≤ e) (h2 : e ≤ t.length) (h3 : t.length - (e - b) + put.length ≤ 2000)
    {Φ : M → Option M → Prop} (k : ∀ ds l p kn ko, SReach bk (t.take b) ds l p → Stuck bk (t.take b) ds p → IsSt bk (t.take b ++ put ++ t.drop e) kn → IsSt bk t ko → Φ (.lst [.dat (.str (t.take b ++ put ++ t.drop e)), .dat (.tup [.int p, .int (lastP kn ko ((put.length : Int) - (e - b)) (b + put.length) ((t.length : Int) + 1 - e).toNat ((t.take b ++ put ++ t.drop e).length : Nat))])]) none) :
    TF F_law_anew [.dat (toBk bk), .dat (.str t), .dat (.int b), .dat (.int e), .dat (.str put)] Φ := by
  have htl := ht.l
  have htb : TOk (t.take b) := ⟨by rw [List.length_take]; omega, fun c hc => ht.c c (List.mem_of_mem_take hc)⟩
  have hnl : (t.take b ++ put ++ t.drop e).length = t.length - (e - b) + put.length := by
    rw [List.length_append, List.length_append, List.length_take, List.length_drop]; omega
  have htn : TOk (t.take b ++ put ++ t.drop e) := ⟨by omega, fun c hc => by
    rcases List.mem_append.mp hc with z | z
    · rcases List.mem_append.mp z with z | z
      · exact htb.c c z
      · exact hp c z
    · exact ht.c c (List.mem_of_mem_drop z)⟩
  refine TF_B rfl ?_
  simp [g_law_anew, start0]
  rw [cutD_hi (by omega), cutD_lo (by omega), Int.toNat_natCast, Int.toNat_natCast]
  refine ⟨by omega, by rw [List.length_take]; omega, by omega, by rw [List.length_take, List.length_drop]; omega, by omega, law_sure_ok hg htb fun ds l p hr hs => ?_⟩
  have hra := (hr.reach.run hg).a
  have hrq := (hr.reach.run hg).q
  rw [List.length_take] at hrq
  simp
  rw [show l = l.map fun d => d by simp]
  refine T_gLc_map (f := fun d => d) (h := fun d => .int (manyD d)) (fun d hd => ?_) ?_
  · obtain ⟨p, many, w, to, dep, rfl⟩ := hr.reach.shape d hd
    simp [tupS, manyD]
  · rw [List.nil_append, fSum_manyD, hr.reach.many]
    simp
    refine ⟨by omega, law_stands_ok hg ht fun ko hko => ?_⟩
    simp
    rw [← List.append_assoc]
    refine law_stands_ok hg htn fun kn hkn => ?_
    simp
    have hmin : min b t.length = b := by omega
    rw [hmin]
    refine ⟨by omega, by omega, by omega, by omega, by unfold rgOk; rw [decide_eq_true_iff]; omega, ?_⟩
    rw [← List.map_reverse, views_dat]
    simp only [Tp_some]
    have kk := k ds l p kn ko hr hs hkn hko
    rw [show ((b : Int) + ((put.length : Int) + ((t.length - e : Nat) : Int)) + 1 - ((b : Int) + put.length)).toNat = ((t.length : Int) + 1 - e).toNat by omega]
    rw [show (((t.take b ++ put ++ t.drop e).length : Nat) : Int) = (b : Int) + ((put.length : Int) + ((t.length - e : Nat) : Int)) by rw [hnl]; omega] at kk
    unfold lastP at kk
    rw [show rngD ((b : Int) + put.length) ((t.length : Int) + 1 - e).toNat = ((List.range ((t.length : Int) + 1 - e).toNat).map fun (i : Nat) => ((b : Int) + put.length) + (i : Int)).map D.int by unfold rngD; rw [List.map_map]; rfl]
    rw [List.append_assoc] at kk
    generalize (List.range ((t.length : Int) + 1 - e).toNat).map (fun (i : Nat) => ((b : Int) + put.length) + (i : Int)) = L at *
    generalize (b : Int) + ((put.length : Int) + ((t.length - e : Nat) : Int)) = len at *
    generalize (put.length : Int) - ((e : Int) - b) = more at *
    rw [← List.map_reverse]
    refine T_forL (AnI _ _ _ _ _ (some (.dat (.str (t.take b ++ (put ++ t.drop e))))) (some (.dat (.int p))) kn ko more len L) ?_ ?_ ⟨L, [], len, none, none, rfl, by simp, rfl, rfl⟩
    · rintro d rest ρ ⟨pre, suf, last, x11, x12, rfl, e1, e2, e3⟩
      rcases List.eq_nil_or_concat pre with rfl | ⟨init, q, rfl⟩
      · simp at e2
      · rw [List.concat_eq_append] at e1 e2
        rw [List.reverse_append] at e2
        simp only [List.reverse_cons, List.reverse_nil, List.nil_append, List.singleton_append, List.map_cons, List.cons.injEq] at e2
        obtain ⟨rfl, rfl⟩ := e2
        simp [g_law_anew_B1]
        have ini : L = init ++ (q :: suf) := by rw [e1]; simp
        have no : goodAt kn ko more q = false → AnI (some (.dat (toBk bk))) (some (.dat (.str t))) (some (.dat (.int b))) (some (.dat (.int e))) (some (.dat (.str put))) (some (.dat (.str (t.take b ++ (put ++ t.drop e))))) (some (.dat (.int p))) kn ko more len L (init.reverse.map D.int)
            [some (.dat (toBk bk)), some (.dat (.str t)), some (.dat (.int b)), some (.dat (.int e)), some (.dat (.str put)), some (.dat (.str (t.take b ++ (put ++ t.drop e)))), some (.dat (.int p)), some (.dat (.dic ko)), some (.dat (.dic kn)), some (.dat (.int more)), some (.dat (.int last)), some (.dat (.int q)), x12] := fun z =>
          ⟨init, q :: suf, last, _, _, rfl, ini, rfl, by rw [List.find?_cons, z]; exact e3⟩
        simp only [List.map_reverse] at no
        refine ⟨fun q1 => ⟨fun q2 => good_T (more := more) hg hkn hko ⟨fun z => ?_, no⟩ q1 q2, fun q2 => no (good_none (.inr (by rw [q2]; rfl)))⟩, fun q1 => no (good_none (.inl (by rw [q1]; rfl)))⟩
        exact ⟨init, q :: suf, q, _, _, rfl, ini, by rw [List.map_reverse], by rw [List.find?_cons, z]; rfl⟩
    · rintro ρ ⟨pre, suf, last, x11, x12, rfl, e1, e2, e3⟩
      have : pre = [] := by simpa using e2.symm
      subst this
      rw [List.nil_append] at e1
      subst e1
      rw [e3]
      simp
      exact kk
theorem lastP_same {bk : Bk} {t t0 : List Nat} {kn kn' ko ko' : List (D × D)} {more least len : Int} {n : Nat} (h1 : IsSt bk t kn) (h2 : IsSt bk t kn') (h3 : IsSt bk t0 ko) (h4 : IsSt bk t0 ko') : lastP kn ko more least n len = lastP kn' ko' more least n len := by
  unfold lastP
  have : goodAt kn ko more = goodAt kn' ko' more := by
    funext p
    unfold goodAt
    rw [h1.same h2, h3.same h4]
  rw [this]
theorem law_change_ok {bk : Bk} {t : List Nat} {a b : Int} (hg : Good bk) (ht : TOk t) (ht2 : t.length ≤ 2000) {Φ : M → Option M → Prop} (k : ∀ (b0 e0 : Nat) (put : List Nat) (a' b' : Int), b0 ≤ e0 → e0 ≤ t.length → (∀ c ∈ put, c < 1114112) → t.length - (e0 - b0) + put.length ≤ t.length + 44 → Φ (.lst [.dat (.int b0), .dat (.int e0), .dat (.str put)]) (some (bag a' b'))) :
    TF F_law_change [bag a b, .dat (toBk bk), .dat (.str t)] Φ := by
  refine TF_B rfl ?_
  simp [g_law_change, start0]
  refine ⟨by omega, take_ok (by omega) (by omega) fun r1 a1 b1 p1 q1 => ?_⟩
  simp
  refine ⟨by omega, take_ok (by decide) (by decide) fun r2 a2 b2 p2 q2 => ?_⟩
  simp
  refine take_ok (by decide) (by decide) fun r3 a3 b3 p3 q3 => ?_
  simp
  refine pickI p3 (by simpa using q3) fun d hd => ?_
  have : ∃ n : Int, d = .int n ∧ 0 ≤ n := by
    simp only [List.mem_cons, List.not_mem_nil, or_false] at hd
    rcases hd with rfl | rfl | rfl | rfl | rfl
    · exact ⟨_, rfl, by decide⟩
    · exact ⟨_, rfl, by decide⟩
    · exact ⟨_, rfl, by decide⟩
    · exact ⟨_, rfl, p2⟩
    · exact ⟨_, rfl, by decide⟩
  obtain ⟨n, rfl, hn⟩ := this
  simp
  obtain ⟨b0, rfl⟩ : ∃ b0 : Nat, r1 = b0 := ⟨r1.toNat, by omega⟩
  have he : ∃ e0 : Nat, (if (b0 : Int) + n < t.length then (b0 : Int) + n else (t.length : Int)) = e0 ∧ b0 ≤ e0 ∧ e0 ≤ t.length := by
    split
    · exact ⟨((b0 : Int) + n).toNat, by omega, by omega, by omega⟩
    · exact ⟨t.length, rfl, by omega, by omega⟩
  obtain ⟨e0, he, hb, hel⟩ := he
  rw [he]
  refine text_ok' hg.z (by decide) (by decide) fun u1 a4 b4 hu1 hc1 => ?_
  simp
  refine ⟨by omega, text_ok' hg.z (by decide) (by decide) fun u2 a5 b5 hu2 hc2 => ?_⟩
  simp
  have n3 : (3 : Int).toNat = 3 := rfl
  have n12 : (12 : Int).toNat = 12 := rfl
  refine take_ok (by decide) (by decide) fun r5 a6 b6 p6 q6 => ?_
  simp
  rw [cutD_lohi (by omega) (by omega), Int.toNat_natCast, Int.toNat_natCast]
  have hcl : ((t.drop b0).take (e0 - b0)).length = e0 - b0 := by rw [List.length_take, List.length_drop]; omega
  refine pickI p6 (by simpa using q6) fun d hd => ?_
  have : ∃ put : List Nat, d = .str put ∧ (∀ c ∈ put, c < 1114112) ∧ t.length - (e0 - b0) + put.length ≤ t.length + 44 ∧ put.length ≤ t.length + 44 := by
    simp only [List.mem_cons, List.not_mem_nil, or_false] at hd
    rcases hd with rfl | rfl | rfl | rfl
    · exact ⟨_, rfl, hc1, by omega, by omega⟩
    · exact ⟨_, rfl, by simp, by simp; omega, by simp⟩
    · exact ⟨_, rfl, fun c hc => ht.c c (List.mem_of_mem_drop (List.mem_of_mem_take hc)), by omega, by omega⟩
    · exact ⟨_, rfl, hc2, by omega, by omega⟩
  obtain ⟨put, rfl, hpc, hp1, hp2⟩ := this
  refine take_ok (by decide) (by decide) fun r6 a7 b7 p7 q7 => ?_
  simp
  refine ⟨fun _ => ⟨by omega, ?_⟩, fun _ => k b0 e0 put _ _ hb hel hpc hp1⟩
  exact k 0 t.length put _ _ (by omega) (Nat.le_refl _) hpc (by omega)
end Y
/-! Y: paths through an owned list; comprehensions of owned trees. -/
namespace Y
open PySem L2
variable [TabC]
/-- the item of an owned list, by number -/
def gAt (pf : Env → Option Pth) (gi : Env → Option M) : Env → Option Pth := fun ρ => match pf ρ with
  | some p => (match gi ρ with
    | some (.dat (.int i)) => (match getP ρ p with
      | some (.lst ms) => (ixN ms.length i).map fun n => .idx p n
      | _ => none)
    | _ => none)
  | none => none
def gLcO (st : D → G Unit) (tt : G Bool) (ge : G M) (vs : List Nat) : List D → List M → G (List M)
  | [], acc => gRet acc
  | d :: ds, acc => gBind (gCalm (st d)) fun _ => gBind (gCalm tt) fun b => bif b then gBind (gCalm ge) fun y => fun ρ => gLcO st tt ge vs ds (acc ++ [y]) (wipeE ρ vs) else fun ρ => gLcO st tt ge vs ds acc (wipeE ρ vs)
def gCompO (gi : G (List D)) (st : D → G Unit) (tt : G Bool) (ge : G M) (vs : List Nat) : G M := gBind gi fun ds ρ1 => gBind (gLcO st tt ge vs ds []) (fun acc ρ2 => if acc.length ≤ 100000 then some (.ok (.lst acc) (wipeE ρ2 vs)) else none) (wipeE ρ1 vs)
section
variable {K : Kx} {E : XK} {kp : Nat → Bool} {F F' F1 F2 H H' H1 H2 : Hp} {as as' as1 as2 bs : List Addr} {σ σ' σ1 : L2.St} {ρ : Env} {te tb : TE}
theorem lp_idx {pf : Env → Option Pth} {gi : Env → Option M} (h : LP K te pf) (hb : EP K tb gi) : LP K (tOp (rIx K.K) te tb) (gAt pf gi) := fun F H σ ρ as p m Q hs so e e2 k => by
  unfold gAt at e
  split at e
  case h_2 => cases e
  rename_i p0 e1
  split at e
  case h_2 => cases e
  rename_i i e3
  split at e
  case h_2 => cases e
  rename_i ms em
  cases en : ixN ms.length i with
  | none => rw [en] at e; cases e
  | some n =>
    rw [en] at e
    cases e
    have e2' : ms[n]? = some m := by
      simp only [getP, em, Option.bind_some, itemM] at e2
      exact e2
    refine h F H σ ρ as p0 _ _ hs so e1 em fun F1 H1 v ms' g1 fo => ?_
    refine hb F1 H1 σ ρ as _ _ g1.fh (so.grow g1) e3 fun F2 H2 w rs g2 o2 => ?_
    obtain rfl := o2.dat_inv.1.int_inv
    obtain ⟨a, vs, u, ms2, rfl, r1, r2, r3, r4⟩ := foc_idx (fo.grow g2) em e2'
    refine .inl ⟨_, _, i, u, rfl, rfl, .of r1, ?_, k F2 H2 u ms2 (g1.trans g2) r4⟩
    unfold atI
    rw [r3, en]
    exact r2
theorem Owns.snocS : ∀ {vs : List V} {ms : List M} {as : List Addr} {v : V} {m : M} {bs : List Addr}, Owns K F H vs ms as → Own K F H v m bs → (∀ a ∈ as, a ∉ bs) → Owns K F H (vs ++ [v]) (ms ++ [m]) (as ++ bs)
  | _, _, _, v, m, bs, .nil, h, _ => by
    have : Owns K F H [v] [m] (bs ++ []) := .cons h .nil (by simp)
    simpa using this
  | _, _, _, v, m, bs, .cons (as := cs) (bs := ds) h hs n, h2, q => by
    rw [List.append_assoc]
    refine .cons h (Owns.snocS hs h2 fun a z => q a (List.mem_append_right _ z)) fun a z y => ?_
    rcases List.mem_append.mp y with y | y
    · exact n a z y
    · exact q a (List.mem_append_left _ z) y
theorem Owns.len' : ∀ {vs : List V} {ms : List M} {as : List Addr}, Owns K F H vs ms as → vs.length = ms.length
  | _, _, _, .nil => rfl
  | _, _, _, .cons _ hs _ => congrArg (· + 1) (Owns.len' hs)
theorem gLcO_calm (st : D → G Unit) (tt : G Bool) (ge : G M) (vs : List Nat) : ∀ (ds : List D) (acc : List M) (ρ : Env) (C : Nat) (ρ' : Env), gLcO st tt ge vs ds acc ρ ≠ some (.ex C ρ')
  | [], acc, ρ, C, ρ', e => by cases e
  | d :: ds, acc, ρ, C, ρ', e => by
    obtain ⟨_, ρ1, _, e1⟩ := gCalm_use (show gBind (gCalm (st d)) _ ρ = _ from e)
    obtain ⟨b, ρ2, _, e2⟩ := gCalm_use (show gBind (gCalm tt) _ ρ1 = _ from e1)
    cases b with
    | true =>
      obtain ⟨y, ρ3, _, e3⟩ := gCalm_use (show gBind (gCalm ge) _ ρ2 = _ from e2)
      exact gLcO_calm st tt ge vs ds _ _ C ρ' e3
    | false => exact gLcO_calm st tt ge vs ds _ _ C ρ' e2
theorem em_compO {wi : TI} {gi : G (List D)} {tg : TG} {st : D → G Unit} {tt : TT} {gt : G Bool} {ge : G M} {vs : List Nat} (hi : JI K E kp wi gi) (ht : JT K (fun i => decide (i ∉ vs)) tg st) (hc : ET K E0 kp tt gt) (he : EM K E0 kp te ge) : EM K E kp (tLc wi tg tt te vs) (gCompO gi st gt ge vs) := fun F H σ ρ as o Q hs so e hx k => by
  rcases gBind_cases e with ⟨C, ρ', e1, eo⟩ | ⟨ds, ρ', e1, eo⟩
  · refine hi F H σ ρ as _ _ hs so e1 (hx.to fun C' ρ'' e' => by rw [eo]; cases e'; rfl) fun ds ρ'' e' => by cases e'
  · refine hi F H σ ρ as _ _ hs so e1 (hx.to fun C' ρ'' e' => by cases e') fun ds' ρ'' e' F0 H0 as0 J g0 so0 wk => ?_
    cases e'
    intro L hL
    rcases gBind_cases eo with ⟨C, ρ2, e2, eo2⟩ | ⟨acc, ρ2, e2, eo2⟩
    · exact absurd e2 (gLcO_calm _ _ _ _ _ _ _ _ _)
    · split at eo2
      case isFalse => cases eo2
      rename_i hacc
      obtain ⟨asw, sow, subw⟩ := so0.wipe vs
      have fL : F0 L = none := g0.fh.free hL
      have gL : Gr F0 H0 [] F0 (upd H0 L (.lst [])) [L] := Gr.new g0.fh hL
      have nLw : L ∉ asw := fun z => (so0.has L (subw L z)).1 hL
      refine ⟨fun i m H' => i + m = ds.length ∧ ∃ F' ρ' as' acc' ws bs, Gr F0 (upd H0 L (.lst [])) (L :: asw) F' H' (L :: (as' ++ bs)) ∧ H' L = some (.lst ws) ∧ F' L = none ∧ Owns K F' H' ws acc' bs ∧ L ∉ as' ∧ L ∉ bs ∧ (∀ b ∈ bs, b ∉ as') ∧ SO K F' H' (L2.wipe σ vs) ρ' as' ∧ gLcO st gt ge vs (ds.drop i) acc' ρ' = some (.ok acc ρ2),
        ⟨ds.length, by simp, F0, _, asw, [], [], [], by rw [List.append_nil]; exact .refl gL.fh, upd_same, fL, .nil, nLw, by simp, by simp, sow.frame gL (by simp), e2⟩, ?_⟩
      rintro i m H1 ⟨em, F1, ρ1, as1, acc1, ws, bs1, g1, hL1, fL1, dv1, nL1, nB1, dj1, so1, e1'⟩
      obtain ⟨wgo, wst⟩ := wk i F1 H1 (g1.ff) g1.fh
      have lacc : acc1.length ≤ acc.length := by
        have key : ∀ (ds : List D) (acc1 : List M) (ρ1 : Env), gLcO st gt ge vs ds acc1 ρ1 = some (.ok acc ρ2) → acc1.length ≤ acc.length := by
          intro ds
          induction ds with
          | nil => intro acc1 ρ1 e; cases e; exact Nat.le_refl _
          | cons d ds ih =>
            intro acc1 ρ1 e
            obtain ⟨_, ρ3, _, e1⟩ := gCalm_use (show gBind (gCalm (st d)) _ ρ1 = _ from e)
            obtain ⟨b, ρ4, _, e2⟩ := gCalm_use (show gBind (gCalm gt) _ ρ3 = _ from e1)
            cases b with
            | true =>
              obtain ⟨y, ρ5, _, e3⟩ := gCalm_use (show gBind (gCalm ge) _ ρ4 = _ from e2)
              have := ih _ _ e3
              simp at this
              omega
            | false => exact ih _ _ e2
        exact key _ _ _ e1'
      by_cases hlt : i < ds.length
      · obtain ⟨go, yl⟩ := wgo ds[i] (List.getElem?_eq_getElem hlt)
        refine .inr ⟨go, fun H' => ∃ F' ρ' as' acc' ws bs, Gr F0 (upd H0 L (.lst [])) (L :: asw) F' H' (L :: (as' ++ bs)) ∧ H' L = some (.lst ws) ∧ F' L = none ∧ Owns K F' H' ws acc' bs ∧ L ∉ as' ∧ L ∉ bs ∧ (∀ b ∈ bs, b ∉ as') ∧ SO K F' H' (L2.wipe σ vs) ρ' as' ∧ gLcO st gt ge vs (ds.drop (i + 1)) acc' ρ' = some (.ok acc ρ2), fun H' q => ⟨m - 1, by omega, by omega, q⟩, fun x H2 y => ?_⟩
        obtain ⟨F2, g2, r2⟩ := yl x H2 y
        rw [List.drop_eq_getElem_cons hlt] at e1'
        obtain ⟨_, ρ3, e3, e4⟩ := gCalm_use (show gBind (gCalm (st ds[i])) _ ρ1 = _ from e1')
        obtain ⟨b, ρ4, e5, e6⟩ := gCalm_use (show gBind (gCalm gt) _ ρ3 = _ from e4)
        have so2 := so1.grow g2
        refine ht F2 H2 _ ρ1 as1 x _ _ _ g2.fh so2 r2 e3 fun ρ3' eρ σ3 as3 k3 s3 so3 => ?_
        cases eρ
        have hw : L2.wipe σ3 vs = L2.wipe σ vs := by
          apply List.ext_getElem?
          intro j
          by_cases hj : j ∈ vs
          · rw [wipe_in hj, wipe_in hj, k3.2, wipe_length]
          · rw [wipe_out hj, k3.1 j (decide_eq_true hj)]
        refine ⟨hw, ?_⟩
        have g3 : Gr F1 H1 as1 F2 H2 as3 := (g2.weak as1).less s3
        refine hc F2 H2 σ3 ρ3 as3 _ _ g3.fh so3 e5 .ok fun b' ρ4' eρ F4 H4 as4 b2 g4 so4 rb => ?_
        cases eρ
        subst rb
        have outL : ∀ {F' H' : Hp} {as' : List Addr}, Gr F1 H1 as1 F' H' as' → H' L = some (.lst ws) ∧ F' L = none ∧ L ∉ as' := fun {F' H' as'} g => ⟨g.hh _ _ hL1 nL1, g.fz _ fL1 (by rw [hL1]; simp) nL1, g.out (by rw [hL1]; simp) nL1⟩
        have big : ∀ {F' H' : Hp} {as' rs : List Addr}, Gr F1 H1 as1 F' H' (as' ++ rs) → Gr F0 (upd H0 L (.lst [])) (L :: asw) F' H' (L :: (as' ++ (bs1 ++ rs))) := fun {F' H' as' rs} g => g1.trans (g.more (bs := L :: (as1 ++ bs1)) (as2 := L :: (as' ++ (bs1 ++ rs))) (fun a z => List.mem_cons_of_mem _ (List.mem_append_left _ z)) (fun a z => by
          rcases List.mem_append.mp z with z | z
          · exact List.mem_cons_of_mem _ (List.mem_append_left _ z)
          · exact List.mem_cons_of_mem _ (List.mem_append_right _ (List.mem_append_right _ z))) fun a z => by
          rcases List.mem_cons.mp z with z | z
          · exact .inr (by rw [z]; exact List.mem_cons_self)
          · rcases List.mem_append.mp z with z | z
            · exact .inl (List.mem_append_left _ z)
            · rcases List.mem_append.mp z with z | z
              · exact .inr (List.mem_cons_of_mem _ (List.mem_append_right _ z))
              · exact .inl (List.mem_append_right _ z))
        have g4' := g3.trans g4
        cases b2 with
        | true =>
          obtain ⟨yd, ρ5, e7, e8⟩ := gCalm_use (show gBind (gCalm ge) _ ρ4 = _ from e6)
          show te σ3 H4 _
          refine he F4 H4 σ3 ρ4 as4 _ _ g4.fh so4 e7 .ok fun y' ρ5' eρ F5 H5 as5 rs5 v5 g5 so5 r5 n5 => ?_
          cases eρ
          have g5' := g4'.trans g5
          obtain ⟨o1, o2, o3⟩ := outL g5'
          have ow1 := dv1.frame g5' dj1
          have ap1 := dv1.apart g5' dj1
          have l1 : ws.length = acc1.length := dv1.len'
          refine ⟨ws, o1, Nat.lt_of_lt_of_le (by omega : ws.length < 100001) (by decide), ?_⟩
          obtain ⟨as6, so6, sub6⟩ := so5.wipe vs
          rw [hw] at so6
          have gm : Gr F5 H5 [L] F5 (upd H5 L (.lst (ws ++ [v5]))) [L] := Gr.mut g5.fh o2 (by simp)
          have ow2 : Owns K F5 H5 (ws ++ [v5]) (acc1 ++ [yd]) (bs1 ++ rs5) := ow1.snocS r5 fun a z y => ap1 a z (List.mem_append_right _ y)
          have nL2 : L ∉ bs1 ++ rs5 := fun z => (List.mem_append.mp z).elim nB1 fun y => o3 (List.mem_append_right _ y)
          have nL6 : L ∉ as6 := fun z => o3 (List.mem_append_left _ (sub6 _ z))
          refine ⟨F5, wipeE ρ5 vs, as6, acc1 ++ [yd], ws ++ [v5], bs1 ++ rs5, ?_, upd_same, o2, ow2.frame gm (fun b hb z => ?_), nL6, nL2, fun b hb z => ?_, so6.frame gm (fun b hb z => ?_), e8⟩
          · refine ((big g5').less (as2 := L :: (as6 ++ (bs1 ++ rs5))) fun a z => ?_).trans (gm.more (fun a z => ?_) (fun a z => ?_) fun a z => ?_)
            · rcases List.mem_cons.mp z with z | z
              · rw [z]; exact List.mem_cons_self
              · rcases List.mem_append.mp z with z | z
                · exact List.mem_cons_of_mem _ (List.mem_append_left _ (sub6 _ z))
                · exact List.mem_cons_of_mem _ (List.mem_append_right _ z)
            · rw [List.mem_singleton] at z
              rw [z]
              exact List.mem_cons_self
            · rw [List.mem_singleton] at z
              rw [z]
              exact List.mem_cons_self
            · exact .inr z
          · rw [List.mem_singleton] at z
            subst z
            exact nL2 hb
          · rcases List.mem_append.mp hb with hb | hb
            · exact ap1 b hb (List.mem_append_left _ (sub6 _ z))
            · exact n5 b hb (sub6 _ z)
          · rw [List.mem_singleton] at z
            subst z
            exact nL6 hb
        | false =>
          show ∃ F' ρ' as' acc' ws bs, _
          obtain ⟨as6, so6, sub6⟩ := so4.wipe vs
          rw [hw] at so6
          have g4n : Gr F1 H1 as1 F4 H4 (as4 ++ []) := by rw [List.append_nil]; exact g4'
          obtain ⟨o1, o2, o3⟩ := outL g4'
          have ow1 := dv1.frame g4' dj1
          have ap1 := dv1.apart g4' dj1
          have gb := big g4n
          rw [List.append_nil] at gb
          refine ⟨F4, wipeE ρ4 vs, as6, acc1, ws, bs1, gb.less fun a z => ?_, o1, o2, ow1, fun z => o3 (sub6 _ z), nB1, fun b hb z => ap1 b hb (sub6 _ z), so6, e6⟩
          rcases List.mem_cons.mp z with z | z
          · rw [z]; exact List.mem_cons_self
          · rcases List.mem_append.mp z with z | z
            · exact List.mem_cons_of_mem _ (List.mem_append_left _ (sub6 _ z))
            · exact List.mem_cons_of_mem _ (List.mem_append_right _ z)
      · refine .inl ⟨wst (by omega), ?_⟩
        rw [List.drop_of_length_le (by omega)] at e1'
        cases e1'
        obtain ⟨as2, so2, sub2⟩ := so1.unwipe vs
        refine k _ _ (Option.some.inj eo2).symm F1 H1 as2 (L :: bs1) (.ref L) ?_ so2 (.lst hL1 fL1 dv1 nB1) (fun z hz => by
          rcases List.mem_cons.mp hz with hz | hz
          · subst hz
            exact fun y => nL1 (sub2 _ y)
          · exact fun y => dj1 z hz (sub2 _ y))
        have g3 := (gL.more (bs := as0) (as2 := L :: as0) (by simp) (by simp) (by simp)).trans (g1.more (bs := L :: as0) (as2 := L :: (as1 ++ bs1)) (fun a z => ?_) (fun a z => z) (fun a z => .inl z))
        · refine (g0.trans g3).less fun a z => ?_
          rcases List.mem_append.mp z with z | z
          · exact List.mem_cons_of_mem _ (List.mem_append_left _ (sub2 a z))
          · rcases List.mem_cons.mp z with z | z
            · exact List.mem_cons.mpr (.inl z)
            · exact List.mem_cons_of_mem _ (List.mem_append_right _ z)
        · rcases List.mem_cons.mp z with z | z
          · exact List.mem_cons.mpr (.inl z)
          · exact List.mem_cons_of_mem _ (subw a z)
end
@[simp] theorem Tp_gAt {pf : Env → Option Pth} {gi : Env → Option M} {ρ : Env} {Ψ : Pth → Prop} : Tp (gAt pf gi ρ) Ψ ↔ Tp (pf ρ) fun p => Tp (gi ρ) fun m => ∃ i, m = .dat (.int i) ∧ Tp (getP ρ p) fun l => ∃ ms, l = .lst ms ∧ Tp (ixN ms.length i) fun n => Ψ (.idx p n) := by
  unfold gAt
  cases pf ρ with
  | none => simp [Tp]
  | some p =>
    cases gi ρ with
    | none => simp [Tp]
    | some m =>
      cases m with
      | dat d =>
        cases d with
        | int i =>
          cases eg : getP ρ p with
          | none => simp [Tp, eg]
          | some l =>
            cases l with
            | lst ms => cases e : ixN ms.length i <;> simp [Tp, e, eg]
            | _ => simp [Tp, eg]
        | _ => simp [Tp]
      | _ => simp [Tp]
@[simp] theorem getP_idx {ρ : Env} {p : Pth} {n : Nat} : getP ρ (.idx p n) = (getP ρ p).bind fun m => itemM m n := rfl
@[simp] theorem putP_idx {ρ : Env} {p : Pth} {n : Nat} {m' : M} : putP ρ (.idx p n) m' = (match getP ρ p with
    | some m => putP ρ p (putIdx m' n m)
    | none => ρ) := rfl
@[simp] theorem itemM_lst {ms : List M} {n : Nat} : itemM (.lst ms) n = ms[n]? := rfl
@[simp] theorem putIdx_lst {ms : List M} {n : Nat} {m' : M} : putIdx m' n (.lst ms) = .lst (ms.set n m') := rfl
@[simp] theorem T_gLcO_nil {st : D → G Unit} {tt : G Bool} {ge : G M} {vs : List Nat} {acc : List M} {ρ : Env} {Φ : List M → Env → Prop} : T (gLcO st tt ge vs [] acc) ρ Φ ↔ Φ acc ρ := by
  simp [gLcO]
@[simp] theorem T_gLcO_cons {st : D → G Unit} {tt : G Bool} {ge : G M} {vs : List Nat} {d : D} {ds : List D} {acc : List M} {ρ : Env} {Φ : List M → Env → Prop} : T (gLcO st tt ge vs (d :: ds) acc) ρ Φ ↔ T (st d) ρ fun _ ρ1 => T tt ρ1 fun b ρ2 => (b = true → T ge ρ2 fun y ρ3 => T (gLcO st tt ge vs ds (acc ++ [y])) (wipeE ρ3 vs) Φ) ∧ (b = false → T (gLcO st tt ge vs ds acc) (wipeE ρ2 vs) Φ) := by
  show T (gBind (gCalm (st d)) fun _ => gBind (gCalm tt) fun b => bif b then gBind (gCalm ge) fun y => fun ρ => gLcO st tt ge vs ds (acc ++ [y]) (wipeE ρ vs) else fun ρ => gLcO st tt ge vs ds acc (wipeE ρ vs)) ρ Φ ↔ _
  rw [T_bind, T_calm]
  have key : ∀ (b : Bool) (ρ2 : Env), T (bif b then gBind (gCalm ge) fun y => fun ρ => gLcO st tt ge vs ds (acc ++ [y]) (wipeE ρ vs) else fun ρ => gLcO st tt ge vs ds acc (wipeE ρ vs)) ρ2 Φ ↔ ((b = true → T ge ρ2 fun y ρ3 => T (gLcO st tt ge vs ds (acc ++ [y])) (wipeE ρ3 vs) Φ) ∧ (b = false → T (gLcO st tt ge vs ds acc) (wipeE ρ2 vs) Φ)) := by
    intro b ρ2
    cases b with
    | true =>
      simp only [cond_true, T_bind, T_calm, true_implies, Bool.true_eq_false, false_implies, and_true]
      exact Iff.rfl
    | false =>
      simp only [cond_false, true_implies, Bool.false_eq_true, false_implies, true_and]
      exact Iff.rfl
  constructor <;> intro q <;> refine T.mono q fun _ ρ1 z => ?_
  · rw [T_bind, T_calm] at z
    exact T.mono z fun b ρ2 w => (key b ρ2).mp w
  · rw [T_bind, T_calm]
    exact T.mono z fun b ρ2 w => (key b ρ2).mpr w
@[simp] theorem T_gCompO {gi : G (List D)} {st : D → G Unit} {tt : G Bool} {ge : G M} {vs : List Nat} {ρ : Env} {Φ : M → Env → Prop} : T (gCompO gi st tt ge vs) ρ Φ ↔ T gi ρ fun ds ρ1 => T (gLcO st tt ge vs ds []) (wipeE ρ1 vs) fun acc ρ2 => acc.length ≤ 100000 ∧ Φ (.lst acc) (wipeE ρ2 vs) := by
  have e : ∀ (ds : List D) (ρ1 : Env), T (fun ρ1 => gBind (gLcO st tt ge vs ds []) (fun acc ρ2 => if acc.length ≤ 100000 then some (.ok (M.lst acc) (wipeE ρ2 vs)) else none) (wipeE ρ1 vs)) ρ1 Φ ↔ T (gLcO st tt ge vs ds []) (wipeE ρ1 vs) fun acc ρ2 => acc.length ≤ 100000 ∧ Φ (.lst acc) (wipeE ρ2 vs) := by
    intro ds ρ1
    show T (gBind (gLcO st tt ge vs ds []) (fun acc ρ2 => if acc.length ≤ 100000 then some (.ok (M.lst acc) (wipeE ρ2 vs)) else none)) (wipeE ρ1 vs) Φ ↔ _
    rw [T_bind]
    have key : ∀ (acc : List M) (ρ2 : Env), T (fun ρ2 => if acc.length ≤ 100000 then some (.ok (M.lst acc) (wipeE ρ2 vs)) else none) ρ2 Φ ↔ (acc.length ≤ 100000 ∧ Φ (.lst acc) (wipeE ρ2 vs)) := by
      intro acc ρ2
      unfold T
      by_cases h : acc.length ≤ 100000 <;> simp [h]
    constructor <;> intro q <;> refine T.mono q fun acc ρ2 z => ?_
    · exact (key acc ρ2).mp z
    · exact (key acc ρ2).mpr z
  unfold gCompO
  rw [T_bind]
  constructor <;> intro q <;> refine T.mono q fun ds ρ1 z => ?_
  · exact (e ds ρ1).mp z
  · exact (e ds ρ1).mpr z
end Y
/-! Y: displays of owned trees. -/
namespace Y
open PySem L2
variable [TabC]
def mNil : G (List M) := gRet []
def mCons (g : G M) (gs : G (List M)) : G (List M) := gBind g fun m => gBind gs fun ms => gRet (m :: ms)
def xLstO (gs : G (List M)) : G M := gBind gs fun ms => gOpt (if ms.length ≤ 1000 then some (.lst ms) else none)
section
variable {K : Kx} {E : XK} {kp : Nat → Bool} {F F' F1 F2 H H' H1 H2 : Hp} {as as' as1 as2 bs : List Addr} {σ σ' σ1 : L2.St} {ρ : Env} {te tb : TE} {ta : TA}
theorem ems_nil : EMs K E kp tNil mNil := fun F H σ ρ as o Q hs so e hx k => by
  obtain rfl := gRet_ok e
  exact k _ _ rfl F H as [] [] (by rw [List.append_nil]; exact .refl hs) so .nil (by simp)
theorem ems_cons {g : G M} {gs : G (List M)} (h : EM K E kp te g) (ha : EMs K E kp ta gs) : EMs K E kp (tCons te ta) (mCons g gs) := fun F H σ ρ as o Q hs so e hx k => by
  refine h.use hs so e hx fun m ρ1 F1 H1 as1 rs1 v g1 so1 ow1 n1 e1 => ?_
  refine ha.use g1.fh so1 e1 (hx.step (.refl _) g1.left) fun ms ρ2 F2 H2 as2 rs2 vs g2 so2 ow2 n2 e2 => ?_
  obtain rfl := gRet_ok e2
  have o1 := ow1.frame g2 n1
  have a1 := ow1.apart g2 n1
  refine k _ _ rfl F2 H2 as2 (rs1 ++ rs2) (v :: vs) (g1.trans (g2.more (fun a z => List.mem_append_left _ z) (fun a z => ?_) fun a z => ?_)) so2 (.cons o1 ow2 fun a z y => a1 a z (List.mem_append_right _ y)) fun z hz y => ?_
  · rcases List.mem_append.mp z with z | z
    · exact List.mem_append_left _ z
    · exact List.mem_append_right _ (List.mem_append_right _ z)
  · rcases List.mem_append.mp z with z | z
    · exact .inl (List.mem_append_left _ z)
    · rcases List.mem_append.mp z with z | z
      · exact .inr (List.mem_append_right _ z)
      · exact .inl (List.mem_append_right _ z)
  · rcases List.mem_append.mp hz with hz | hz
    · exact a1 z hz (List.mem_append_left _ y)
    · exact n2 z hz y
theorem em_lstO {gs : G (List M)} (ha : EMs K E kp ta gs) : EM K E kp (tLst ta) (xLstO gs) := fun F H σ ρ as o Q hs so e hx k => by
  refine ha.use hs so e hx fun ms ρ1 F1 H1 as1 rs vs g1 so1 r1 n1 e1 => ?_
  obtain ⟨d, e2, rfl⟩ := gOpt_ok e1
  split at e2
  · rename_i hl
    cases e2
    refine ⟨by rw [r1.len']; exact big hl, fun p hp => ?_⟩
    have gn := Gr.new (o := .lst vs) g1.fh hp
    have gn' : Gr F1 H1 [] F1 (upd H1 p (.lst vs)) [] := gn.less (by simp)
    have np : p ∉ rs := fun z => (r1.has p z).1 hp
    have np1 : p ∉ as1 := fun z => (so1.has p z).1 hp
    refine k _ _ rfl _ _ as1 (p :: rs) (.ref p) (g1.trans (gn'.re gn.ff gn.fh (by simp) (fun a z => ?_) (fun a e q _ => gn.fz a e q (by simp)))) (so1.grow gn') (.lst upd_same (g1.fh.free hp) (r1.grow gn') np) fun z hz y => ?_
    · rcases List.mem_append.mp z with z | z
      · exact .inl (List.mem_append_left _ z)
      · rcases List.mem_cons.mp z with z | z
        · exact .inr (by rw [z]; exact hp)
        · exact .inl (List.mem_append_right _ z)
    · rcases List.mem_cons.mp hz with hz | hz
      · rw [hz] at y; exact np1 y
      · exact n1 z hz y
  · cases e2
end
@[simp] theorem T_mNil {ρ : Env} {Φ : List M → Env → Prop} : T mNil ρ Φ ↔ Φ [] ρ := by simp [mNil]
@[simp] theorem T_mCons {g : G M} {gs : G (List M)} {ρ : Env} {Φ : List M → Env → Prop} : T (mCons g gs) ρ Φ ↔ T g ρ fun m ρ1 => T gs ρ1 fun ms ρ2 => Φ (m :: ms) ρ2 := by
  unfold mCons
  rw [T_bind]
  constructor <;> intro q <;> refine T.mono q fun m ρ1 z => ?_
  · rw [T_bind] at z
    refine T.mono z fun ms ρ2 w => by simpa using w
  · rw [T_bind]
    refine T.mono z fun ms ρ2 w => by simpa using w
@[simp] theorem T_xLstO {gs : G (List M)} {ρ : Env} {Φ : M → Env → Prop} : T (xLstO gs) ρ Φ ↔ T gs ρ fun ms ρ1 => ms.length ≤ 1000 ∧ Φ (.lst ms) ρ1 := by simp [xLstO]
@[simp] theorem ixN20 : ixN 2 0 = some 0 := rfl
@[simp] theorem ixN21 : ixN 2 1 = some 1 := rfl
end Y
/-! Y: sorted(d) of a dict whose keys are whole numbers in rising order, any number of them. -/
namespace Y
open PySem PySem.Spec PyProof.Rows L2
variable [TabC]
/-- sorted(d), the keys whole numbers -/
def rSortKeys : List V → Hp → VK → Prop := fun xs H Q => ∃ (a : Addr) (kvs : List (Key × V)) (ks : List Int), xs = [.ref a] ∧ Rd H a (.dK kvs) ∧ kvs.map (·.1) = ks.map Sum.inl ∧
  ∀ (ys : List Int) (p : Addr), ys.Perm ks → ys.Pairwise (· ≤ ·) → H p = none → Q (.ref p) (upd H p (.lst (ys.map V.int)))
section
variable {X : Cx}
theorem cr_sortKeys (hcalm : X.calm = true) : CallR X (.builtin "sorted") rSortKeys := by
  intro pins s σ H xs us Q I r q
  obtain ⟨a, kvs, ks, rfl, hd, hks, q⟩ := q
  obtain ⟨u, rfl, rx⟩ := vals1 r
  cases rx
  obtain ⟨z, lo, vs, rel, dd⟩ := dk_rd I.hok hd
  obtain ⟨ep, hat⟩ := dd.dictAt
  have hkeys : vs.map (·.1) = ks.map Sum.inl := rel.keys.symm.trans hks
  have hl : vs.length = ks.length := by simpa using congrArg List.length hkeys
  have hz : vs.length ≤ sizeLine := by rw [← rel.length]; exact z
  refine Calls.call_function_entry PyProof.Rows.kind_sorted PyProof.Rows.plain_sorted PyProof.Rows.entry_sorted (PyProof.Rows.args_sorted1 _) ?_
  unfold Builtin.«sorted»
  refine wpAny_bind (m := checkCount "sorted" 1 1 _) (wpAny_pure ?_)
  refine wpAny_bind (PySem.W.kdu_collect (A := X.A.in1) (PySem.W.kdl_dict (knd := mixKind X.prog X.w) (kvs := vs) (ep := ep) lo) (I.ok.hd hcalm) hat hz fun h' tk acc hk hacc => ?_)
  have hal : acc.toList.length = ks.length := by rw [Array.length_toList, hacc.1, hl]
  have hS : IntsAre acc.toList ks := ints_each hal fun j v e => by
    obtain ⟨k, x, e1, e2⟩ := hacc.2 j v (by rw [← Array.getElem?_toList]; exact e)
    have e3 : (ks.map Sum.inl : List Key)[j]? = some k := by rw [← hkeys, List.getElem?_map, e1]; rfl
    rw [List.getElem?_map] at e3
    cases e4 : ks[j]? with
    | none => rw [e4] at e3; cases e3
    | some y =>
      rw [e4] at e3
      cases Option.some.inj e3
      rcases keyIs_shape (show keyIs (Sum.inl y) v = true from e2) with ⟨i, t, ek, ev⟩ | ⟨z, t, ek, ev⟩ <;> cases ek
      exact ⟨y, t, rfl, ev⟩
  have hz2 : acc.toList.length ≤ sizeLine := by rw [hal, ← hl]; exact hz
  have I1 : Inv X pins σ H { s with heap := h', toks := tk } := I.kept hk
  refine wpAny_bind (wpAny_newList ?_ hz2)
  have hoL : (h'.push (seqObj "list" acc.toList.toArray 0)).get? h'.objs.size = some (seqObj "list" acc.toList.toArray 0) := Heap.get?_push_size _ rfl
  show wpAny _ _ _ _ _ { s with heap := h'.push (seqObj "list" acc.toList.toArray 0), toks := tk }
  refine wpAny_bind (wpAny_holding (wpAny_call_entry PyProof.Rows.slot_list_sort ⟨_, hoL, rfl⟩ PyProof.Rows.entry_list_sort
    (SrtO.list_sort_ord (s := { s with heap := h'.push (seqObj "list" acc.toList.toArray 0), toks := tk }) SrtO.swo_int hoL hz2 (fun h2 => SrtO.ints_sortable hS h2) fun out h1 h2 => ⟨_, rfl, ?_⟩) (PyProof.Rows.args_list_sort _)))
  obtain ⟨k1, k2, k3⟩ := SrtO.ints_out hS h1 h2
  obtain ⟨e', he'⟩ := PyProof.Rows.sortedHeap_at (vs := acc.toList) (out := out.toArray) hoL
  have hlen : ((out.map SrtO.iv).map V.int).length ≤ sizeLine := by rw [List.length_map, k2.length_eq, ← hl]; exact hz
  refine wpAny_pure ⟨_, rfl, .ref h'.objs.size, upd H h'.objs.size (.lst ((out.map SrtO.iv).map V.int)), I1.laid (t' := tk) (fun b u e => ?_) (Nat.le_refl _)
    (show ObjOk X.prog X.w _ _ _ (.lst ((out.map SrtO.iv).map V.int)) from ⟨hlen, out, e', vals_of_ints k1, he'⟩), rfl, q _ _ k2 k3 (I1.hok.fresh (Nat.le_refl _))⟩
  have hb : b < h'.objs.size := Heap.lt_size e
  rw [PyProof.Rows.sortedHeap_old (Nat.ne_of_lt hb) (by rw [size_push']; exact Nat.lt_succ_of_lt hb)]
  exact Heap.get?_push_of_some _ e
end
/-- the keys, whole numbers in rising order -/
def upL : List Int → Bool
  | [] => true
  | x :: xs => xs.all (fun y => decide (x ≤ y)) && upL xs
theorem upL_pair : ∀ {xs : List Int}, upL xs = true → xs.Pairwise (· ≤ ·)
  | [], _ => .nil
  | x :: xs, h => by
    rw [upL, Bool.and_eq_true] at h
    exact .cons (fun y hy => of_decide_eq_true (List.all_eq_true.mp h.1 y hy)) (upL_pair h.2)
def fSortD : List M → Option M
  | [m] => (match dicOf m with
    | some kds => (match intL (kds.map (·.1)) with
      | some ns => if upL ns then some (.lst (ns.map (M.dat ∘ D.int))) else none
      | none => none)
    | none => none)
  | _ => none
section
variable {K : Kx} {F H : Hp}
theorem DVk.keys : ∀ {kvs : List (Key × V)} {kds : List (D × D)} {ns : List Int}, DVk K F kvs kds → intL (kds.map (·.1)) = some ns → kvs.map (·.1) = ns.map Sum.inl
  | _, _, ns, .nil, e => by
    simp [intL] at e
    subst e
    rfl
  | _, _, ns, .cons (k := k) h hs, e => by
    cases k with
    | inl i =>
      rw [List.map_cons] at e
      simp only [keyD, intL] at e
      split at e
      · rename_i ms e2
        cases e
        rw [List.map_cons, DVk.keys hs e2, List.map_cons]
      · cases e
    | inr x => simp [keyD, intL] at e
theorem perm_up : ∀ {xs ys : List Int}, xs.Perm ys → xs.Pairwise (· ≤ ·) → ys.Pairwise (· ≤ ·) → xs = ys
  | [], ys, h, _, _ => (h.nil_eq)
  | x :: xs, [], h, _, _ => absurd h.length_eq (by simp)
  | x :: xs, y :: ys, h, h1, h2 => by
    cases h1 with
    | cons a1 b1 =>
      cases h2 with
      | cons a2 b2 =>
        have e : x = y := by
          have m1 : y ∈ x :: xs := h.mem_iff.mpr List.mem_cons_self
          have m2 : x ∈ y :: ys := h.mem_iff.mp List.mem_cons_self
          rcases List.mem_cons.mp m1 with z | z
          · exact z.symm
          · rcases List.mem_cons.mp m2 with w | w
            · exact w
            · have := a1 y z
              have := a2 x w
              omega
        subst e
        rw [perm_up (List.Perm.cons_inv h) b1 b2]
theorem p_sortD : PL K rSortKeys fSortD := fun F H vs ms t Q hs ho e k => by
  unfold fSortD at e
  split at e
  case h_2 => cases e
  rename_i m
  split at e
  case h_2 => cases e
  rename_i kds e1
  split at e
  case h_2 => cases e
  rename_i ns e2
  split at e
  case isFalse => cases e
  rename_i hu
  cases e
  cases ho with
  | cons o os =>
    cases os
    obtain ⟨a, kvs, rfl, h1, h2⟩ := o.dic_rd hs e1
    refine ⟨a, kvs, ns, rfl, h1, h2.keys e2, fun ys p hp hy hn => ?_⟩
    obtain rfl := perm_up hp hy (upL_pair hu)
    have gn := Gr.new (o := .lst (ys.map V.int)) hs hn
    refine k F (upd H p (.lst (ys.map V.int))) (.ref p) [p] (gn.less (by simp)) (.lst upd_same (hs.free hn) ?_ (by simp)) fun z hz => by rw [List.mem_singleton.mp hz]; exact hn
    rw [← List.map_map]
    refine Owns.dats ?_
    clear hp hy hu h2 e2 gn k
    induction ys with
    | nil => exact .nil
    | cons y ys ih => exact .cons (.int y) ih
end
end Y
/-! Y: a module's written tuple of texts; the head's hook with one more Bool. -/
namespace Y
open PySem PySem.Spec PyProof.Rows L2
variable [TabC]
def strsB : List Value → List Str → Bool
  | [], [] => true
  | .str z _ :: vs, s :: ss => decide (z = s) && strsB vs ss
  | _, _ => false
/-- the global x is a tuple of these texts -/
def tupB (K : PySem.W.Frag) (x : Str) (ss : List Str) : Bool := match PySem.W.nsIn K mainGlobals x with
  | some (some (.ref a)) => (match K.lookup a with
    | some o => decide (o.cls = .type "tuple") && (match o.data with
      | .seq its _ => strsB its.toList ss && Nat.ble its.size sizeLine
      | _ => false)
    | none => false)
  | _ => false
theorem strsB_vals : ∀ {vs : List Value} {ss : List Str}, strsB vs ss = true → Vals (ss.map V.str) vs
  | [], [], _ => .nil
  | v :: vs, s :: ss, h => by
    cases v with
    | str z t =>
      obtain ⟨h1, h2⟩ := Bool.and_eq_true_iff.mp (show (decide (z = s) && strsB vs ss) = true from h)
      obtain rfl := of_decide_eq_true h1
      exact .cons ⟨t, rfl⟩ (strsB_vals h2)
    | _ => cases h
  | [], _ :: _, h => by cases h
  | v :: _, [], h => by cases v <;> cases h
/-- what a law's def asks of such a name -/
def TupN (K : PySem.W.Frag) (mg : Str → Option Value) (x : Str) (ss : List Str) : Prop := ∃ a, mg x = some (.ref a) ∧ ∀ H, SqT K H a (ss.map V.str)
theorem tupB_ok {K : PySem.W.Frag} {h : Heap} {mg : Str → Option Value} (X : K.In h) (G : h.Ns mainGlobals mg) {x : Str} {ss : List Str} (c : tupB K x ss = true) : TupN K mg x ss := by
  unfold tupB at c
  split at c
  case h_2 => cases c
  rename_i a e1
  split at c
  case h_2 => cases c
  rename_i o e2
  obtain ⟨c1, c2⟩ := Bool.and_eq_true_iff.mp c
  split at c2
  case h_2 => cases c2
  rename_i its n e3
  obtain ⟨c3, c4⟩ := Bool.and_eq_true_iff.mp c2
  exact ⟨a, PySem.W.mg_of X G e1, fun H => .inr ⟨o, its, n, e2, of_decide_eq_true c1, e3, Nat.le_of_ble_eq_true c4, strsB_vals c3⟩⟩
def tGT (K : PySem.W.Frag) (ss : List Str) : TE := fun _ H Q => ∀ a, (∀ H', SqT K H' a (ss.map V.str)) → Q (.ref a) H
section
variable {X : Cx}
theorem pe_globT {x : Str} {ss : List Str} {pos : Pos} (hg : Gl X x) (h : TupN X.K X.mg x ss) (hd : (x == ("__debug__" : Str)) = false := by decide) : PE X (.Name x pos) (tGT X.K ss) := by
  obtain ⟨a, h1, h2⟩ := h
  have q := pe_glob (X := X) (pos := pos) (v := .ref a) hg h1 rfl hd
  exact ⟨fun pins s σ H Q I z => q.run pins s σ H Q I (z a h2)⟩
end
section
variable {K : Kx}
theorem DVs.strsT {F : Hp} : ∀ ss : List Str, DVs K F (ss.map V.str) (ss.map fun s => D.str (sc s))
  | [] => .nil
  | s :: ss => .cons (.str s) (DVs.strsT ss)
theorem en_globT {ss : List Str} : EN K (tGT K.K ss) (cM (.dat (.tup (ss.map fun s => D.str (sc s))))) := fun F H σ ρ as m Q hs so e k => by
  cases e
  intro a ha
  exact k F H (.ref a) [] (.refl hs) (.dat (.tup (ha F) (DVs.strsT ss))) (by simp)
end
/-- the head's hook, with one more Bool -/
abbrev AlE : Type := He.AlD × Bool
def obsE (n : Nat) (fa : List He.Fa) (fn : List He.DefD) (ex : PySem.W.Frag → Bool) (g : Addr → Option Obj) : AlE := (He.obsDG n fa fn g, ex (He.frG g (He.asD g n)))
def hookE (n : Nat) (fa : List He.Fa) (fn : List He.DefD) (ex : PySem.W.Frag → Bool) : PySem.W.Hook where
  α := AlE
  obs := fun s => obsE n fa fn ex s.heap.get?
  val := fun _ => (He.valD fn, true)
  says := fun _ h => ∃ K : PySem.W.Frag, K.In h ∧ He.SaysD fa fn K ∧ ex K = true
  of := fun _ _ e => ⟨_, He.frG_in, congrArg (fun z : AlE => z.1) e, congrArg (fun z : AlE => z.2) e⟩
  keeps := fun _ _ _ ⟨K, hK, c⟩ k => ⟨K, PySem.W.Frag.In.keeps hK k, c⟩
theorem obsE_eq {n : Nat} {fa : List He.Fa} {fn : List He.DefD} {ex : PySem.W.Frag → Bool} {g : Addr → Option Obj} {s : Shared} (h : ∀ a, g a = s.heap.get? a) : obsE n fa fn ex g = (hookE n fa fn ex).obs s := by
  have e : g = s.heap.get? := funext h
  rw [e] <;> rfl
end Y
/-! Y: a tuple times 0 or 1. -/
namespace Y
open PySem PySem.Spec PyProof.Rows L2
variable [TabC]
theorem tuple_mul1 (l : Addr) (items : Array Value) (n : Nat) (dd : Option Addr) (sl : Array (Option Value)) (u : Tok) :
    Meets (Builtin.«tuple.__mul__» ⟨[.ref l, .int 1 u], []⟩) (fun _ R s => s.heap.get? l = some { cls := .type "tuple", dict := dd, data := .seq items n, slots := sl } ∧ R (.ok (.ret (Value.ref l))) s) :=
  .of_wp fun prog w A R s h => by
    obtain ⟨hp, g, d, tk, os⟩ := s
    obtain ⟨hl, h⟩ := h
    have f1 := AutoSeq1.idx_int
    wp_walk using wpAny_loadPart' hl
    exact ⟨_, rfl, h⟩
theorem tuple_mul0 (l : Addr) (items : Array Value) (n : Nat) (dd : Option Addr) (sl : Array (Option Value)) (u : Tok) (hne : items.isEmpty = false) :
    Meets (Builtin.«tuple.__mul__» ⟨[.ref l, .int 0 u], []⟩) (fun _ R s => s.heap.get? l = some { cls := .type "tuple", dict := dd, data := .seq items n, slots := sl } ∧ R (.ok (.ret (Value.ref s.heap.objs.size))) { s with heap := s.heap.push { cls := Value.type "tuple", data := Data.seq #[] }, toks := s.toks }) :=
  .of_wp fun prog w A R s h => by
    obtain ⟨hp, g, d, tk, os⟩ := s
    obtain ⟨hl, h⟩ := h
    have f1 := AutoSeq1.idx_int
    wp_walk using wpAny_loadPart' hl
    exact ⟨_, rfl, h⟩
/-- a tuple times a small number -/
def rRepT3 (K : PySem.W.Frag) : R2 := fun x y H Q => ∃ l k xs, x = .ref l ∧ y = .int k ∧ SqT K H l xs ∧ xs ≠ [] ∧ 0 ≤ k ∧ k ≤ 1000 ∧ xs.length ≤ 1000 ∧ (k = 1 → Q (.ref l) H) ∧ (k ≠ 1 → ∀ p, H p = none → Q (.ref p) (upd H p (.tup (List.replicate k.toNat xs).flatten)))
section
variable {X : Cx}
theorem op_repT3 : OpR X (binaryOp .Mult) (rRepT3 X.K) := by
  intro pins s σ H x y v u Q I rx ry h
  obtain ⟨l, k, xs, rfl, rfl, hT, hne, h1, h2, hz, q1, q2⟩ := h
  rcases (show k = 0 ∨ k = 1 ∨ 2 ≤ k by omega) with h3 | h3 | h3
  · subst h3
    cases rx
    obtain ⟨t, rfl⟩ := ry
    obtain ⟨its, r, ⟨⟨cls, dd, data, sl⟩, ho, hc, n, hd⟩, hs⟩ := I.tuple hT
    simp only at hc hd
    subst hc hd
    have hi : its.toArray.isEmpty = false := by
      cases its with
      | nil => cases r; exact absurd rfl hne
      | cons a b => rfl
    refine wpAny_binaryOp_repeat_ref (T := "tuple") (U := "int") (by decide) ⟨_, ho, rfl⟩ (fun s' => typeIs_int s' 0 t) noFill_tuple_mul F.fills_int_mul F.slot_int_rmul repeat_tuple F.slot_int_index.lookup
      (call_meets F.slot_int_rmul (typeIs_int s 0 t) F.entry_int_rmul (F.args_int_rmul_2 _ _) (int_rmul_tuple 0 t l its.toArray n dd sl)
        ⟨ho, rfl, ⟨_, ho, rfl⟩, call_meets F.slot_tuple_mul ⟨_, ho, rfl⟩ F.entry_tuple_mul (F.args_tuple_mul_2 _ _) (tuple_mul0 l its.toArray n dd sl t hi) ⟨ho, ?_⟩⟩)
    refine ⟨.ref s.heap.objs.size, _, I.laid (t' := s.toks) (o := .tup []) (fun b ob q => Heap.get?_push_of_some _ q) (Nat.le_refl _) ?_, rfl, q2 (by decide) _ (I.hok.fresh (Nat.le_refl _))⟩
    exact ⟨Nat.zero_le _, [], .nil, IsTup.new _ _⟩
  · subst h3
    cases rx
    obtain ⟨t, rfl⟩ := ry
    obtain ⟨its, r, ⟨⟨cls, dd, data, sl⟩, ho, hc, n, hd⟩, hs⟩ := I.tuple hT
    simp only at hc hd
    subst hc hd
    refine wpAny_binaryOp_repeat_ref (T := "tuple") (U := "int") (by decide) ⟨_, ho, rfl⟩ (fun s' => typeIs_int s' 1 t) noFill_tuple_mul F.fills_int_mul F.slot_int_rmul repeat_tuple F.slot_int_index.lookup
      (call_meets F.slot_int_rmul (typeIs_int s 1 t) F.entry_int_rmul (F.args_int_rmul_2 _ _) (int_rmul_tuple 1 t l its.toArray n dd sl)
        ⟨ho, rfl, ⟨_, ho, rfl⟩, call_meets F.slot_tuple_mul ⟨_, ho, rfl⟩ F.entry_tuple_mul (F.args_tuple_mul_2 _ _) (tuple_mul1 l its.toArray n dd sl t) ⟨ho, ?_⟩⟩)
    exact ⟨.ref l, H, I, rfl, q1 rfl⟩
  · exact op_repT pins s σ H _ _ v u Q I rx ry ⟨l, k, xs, rfl, rfl, hT, hne, h3, h2, hz, q2 (by omega)⟩
end
def fMulT : M → M → Option M
  | .dat (.tup ds), .dat (.int k) => if ds ≠ [] ∧ 0 ≤ k ∧ k ≤ 1000 ∧ ds.length ≤ 1000 then some (.dat (.tup (List.replicate k.toNat ds).flatten)) else none
  | _, _ => none
/-- not, of what has effects -/
def xNot (a : G D) : G D := gBind a fun x => match x with
  | .bl b => gRet (.bl (!b))
  | _ => fun _ => none
section
variable {K : Kx} {E : XK} {kp : Nat → Bool} {F H : Hp} {te : TE} {xa : G D}
theorem p_mulT : P2 K (rRepT3 K.K) fMulT := fun F H v w a b as bs t Q hs ha hb e k => by
  unfold fMulT at e
  split at e
  · rename_i ds i
    split at e
    · rename_i hc
      cases e
      obtain ⟨p, vs, rfl, h1, h2⟩ := ha.dat_inv.1.tup_inv
      obtain rfl := hb.dat_inv.1.int_inv
      refine ⟨p, i, vs, rfl, rfl, SqT.mono hs h1, fun z => ?_, hc.2.1, hc.2.2.1, by rw [h2.length]; exact hc.2.2.2, fun z => ?_, fun _ => ?_⟩
      · subst z
        cases h2
        exact hc.1 rfl
      · subst z
        have e1 : (List.replicate (1 : Int).toNat ds).flatten = ds := by simp
        rw [e1] at k
        exact same_dat hs ha.dat_inv.1 k
      · exact new_tup hs (DVs.rep h2 _) k
    · cases e
  · cases e
theorem ex_notV (h1 : EX K E kp te xa) : EX K E kp (tNotV te) (xNot xa) := fun F H σ ρ as o Q hs so e hx k => by
  refine h1.use hs so e hx fun x ρ1 F1 H1 as1 v g1 so1 r e1 => ?_
  split at e1
  · rename_i b
    obtain rfl := gRet_ok e1
    exact ⟨b, r.bl_inv, k _ ρ1 rfl F1 H1 as1 _ g1 so1 (.bl (!b))⟩
  · cases e1
end
def rStrI : List V → Hp → VK → Prop := fun xs H Q => ∃ i, xs = [.int i] ∧ i.natAbs.log2 < 1920 ∧ Q (.str (toString i)) H
def fStrI : List M → Option M
  | [.dat (.int i)] => if i.natAbs < 1000000 then some (.dat (.str (sc (toString i)))) else none
  | _ => none
theorem p_strI {K : Kx} : PL K rStrI fStrI := fun F H vs ms t Q hs ho e k => by
  unfold fStrI at e
  split at e
  · rename_i i
    split at e
    · rename_i hi
      cases e
      cases ho with
      | cons o os =>
        cases os
        obtain rfl := o.dat_inv.1.int_inv
        refine ⟨i, rfl, ?_, same_dat hs (.str _) k⟩
        have : i.natAbs.log2 ≤ i.natAbs := Nat.log2_le_self _
        by_cases h0 : i.natAbs = 0
        · rw [h0]; decide
        · have := (Nat.log2_lt h0 (k := 1920)).mpr (Nat.lt_of_lt_of_le hi (Nat.le_trans (by decide : 1000000 ≤ 2 ^ 20) (Nat.pow_le_pow_right (by decide) (by decide))))
          exact this
    · cases e
  · cases e
@[simp] theorem Tp_fMulT {ds : List D} {k : Int} {Ψ : M → Prop} : Tp (fMulT (.dat (.tup ds)) (.dat (.int k))) Ψ ↔ (ds ≠ [] ∧ 0 ≤ k ∧ k ≤ 1000 ∧ ds.length ≤ 1000) ∧ Ψ (.dat (.tup (List.replicate k.toNat ds).flatten)) := by
  rw [show fMulT (.dat (.tup ds)) (.dat (.int k)) = (if ds ≠ [] ∧ 0 ≤ k ∧ k ≤ 1000 ∧ ds.length ≤ 1000 then some (.dat (.tup (List.replicate k.toNat ds).flatten)) else none) from rfl]
  by_cases h : ds ≠ [] ∧ 0 ≤ k ∧ k ≤ 1000 ∧ ds.length ≤ 1000
  · rw [if_pos h]; simp [Tp, h]
  · rw [if_neg h]; simp only [Tp]; exact ⟨fun z => z.elim, fun z => absurd z.1 h⟩
@[simp] theorem T_xNot {xa : G D} {ρ : Env} {Φ : D → Env → Prop} : T (xNot xa) ρ Φ ↔ T xa ρ fun d ρ1 => Tp (asB d) fun b => Φ (.bl (!b)) ρ1 := by
  unfold xNot
  rw [T_bind]
  constructor <;> intro q <;> refine T.mono q fun d ρ1 z => ?_ <;> cases d <;> simp_all [T, asB, gRet, Tp]
/-- is, is not: of truths -/
def rIsB (n : Bool) : R2 := fun x y H Q => ∃ b c, x = .bl b ∧ y = .bl c ∧ Q (.bl (xor n (decide (b = c)))) H
theorem bl_beq (a b : Bool) : (Value.bool a == Value.bool b) = decide (a = b) := by
  cases a <;> cases b <;> rfl
theorem op_isB {X : Cx} : OpR X (compareOp .Is) (rIsB false) := by
  intro pins s σ H x y v u Q I rx ry h
  obtain ⟨a, b, rfl, rfl, q⟩ := h
  cases (show v = Value.bool a from rx)
  cases (show u = Value.bool b from ry)
  exact wpAny_is_plain rfl (fin_bl I q (by rw [Bool.false_xor]; exact (bl_beq a b).symm))
theorem op_isNotB {X : Cx} : OpR X (compareOp .IsNot) (rIsB true) := by
  intro pins s σ H x y v u Q I rx ry h
  obtain ⟨a, b, rfl, rfl, q⟩ := h
  cases (show v = Value.bool a from rx)
  cases (show u = Value.bool b from ry)
  exact wpAny_isNot_plain rfl (fin_bl I q (by rw [Bool.true_xor]; exact congrArg not (bl_beq a b).symm))
def fIsB (n : Bool) : M → M → Option M
  | .dat (.bl b), .dat (.bl c) => some (.dat (.bl (xor n (decide (b = c)))))
  | _, _ => none
theorem p_isB {K : Kx} {n : Bool} : P2 K (rIsB n) (fIsB n) := fun F H v w a b as bs t Q hs ha hb e k => by
  unfold fIsB at e
  split at e
  · cases e
    obtain rfl := ha.dat_inv.1.bl_inv
    obtain rfl := hb.dat_inv.1.bl_inv
    exact ⟨_, _, rfl, rfl, same_dat hs (.bl _) k⟩
  · cases e
@[simp] theorem fIsB_bl {n b c : Bool} : fIsB n (.dat (.bl b)) (.dat (.bl c)) = some (.dat (.bl (xor n (decide (b = c))))) := rfl
end Y
/-! Y: x.extend(a tuple). -/
namespace Y
open PySem PySem.Spec PyProof.Rows L2
variable [TabC]
theorem extend_tup (l : Addr) (items : Array Value) (n : Nat) (b : Addr) (items2 : Array Value) (n2 : Nat) (dd : Option Addr) (sl : Array (Option Value)) (hs0 : ¬(!items.isEmpty && Builtin.List.listTooLong (items.size + items2.size)) = true) (hs1 : items.size ≤ sizeLine) (hs2 : items.size + items2.size ≤ sizeLine + 1) :
    Meets (Builtin.«list.extend» ⟨[.ref l, .ref b], []⟩) (fun _ R s => s.heap.get? l = some { cls := .type "list", dict := none, data := .seq items n, slots := #[] } ∧ s.heap.get? b = some { cls := .type "tuple", dict := dd, data := .seq items2 n2, slots := sl } ∧ R (.ok (.ret Value.none)) { s with heap := s.heap.update l (Obj.mapSeq fun x => x ++ items2), toks := s.toks }) :=
  .of_wp fun prog w A R s h => by
    obtain ⟨hp, g, d, tk, os⟩ := s
    obtain ⟨hl, hb, h⟩ := h
    have f1 := AutoSeq1.idx_int
    have f2 := AutoSeq1.sub_tuple_tuple
    have f3 := AutoSeq1.sub_list_list
    have f4 := AutoSeq1.sub_tuple_list
    have f5 := AutoSeq1.sub_list_tuple
    have hz' : (items ++ items2).size ≤ sizeLine + 1 := by rw [Array.size_append]; exact hs2
    wp_walk using (wpAny_updateSeq hl rfl (hz := hs1) (_hz' := hz')), wpAny_loadPart' hl, wpAny_loadPart' hb
    exact ⟨_, rfl, h⟩
def rExtT (K : PySem.W.Frag) : V → List V → Hp → VK → Prop := fun x vs H Q => ∃ l b xs zs, x = .ref l ∧ vs = [.ref b] ∧ H l = some (.lst xs) ∧ SqT K H b zs ∧ xs.length + zs.length ≤ sizeLine ∧ Q .non (upd H l (.lst (xs ++ zs)))
section
variable {X : Cx}
theorem mt_extT : MtM X "list.extend" (rExtT X.K) := by
  intro pins s σ H x vs v us Q I rx rv h
  obtain ⟨l, b, xs, zs, rfl, rfl, hH, hB, hz, q⟩ := h
  cases rx
  obtain ⟨u, rfl, ru⟩ := rv.one
  cases ru
  obtain ⟨z, its, n, r, hl, e⟩ := I.lstM hH
  obtain ⟨its2, r2, ⟨⟨cls, dd, data, sl⟩, ho, hc, n2, hd⟩, hs⟩ := I.tuple hB
  simp only at hc hd
  subst hc hd
  have hl2 : its2.length = zs.length := r2.length.symm
  have hl1 : its.length = xs.length := r.length.symm
  have hsz : its.toArray.size + its2.toArray.size ≤ sizeLine := by rw [List.size_toArray, List.size_toArray]; omega
  have hlong : ¬ (!its.toArray.isEmpty && Builtin.List.listTooLong (its.toArray.size + its2.toArray.size)) = true := by
    rw [notLongL hsz, Bool.and_false]
    exact Bool.false_ne_true
  refine call_meets F.slot_list_extend ⟨_, e, rfl⟩ F.entry_list_extend (F.args_list_extend_2 _ _)
    (extend_tup l its.toArray n b its2.toArray n2 dd sl hlong (by rw [List.size_toArray]; omega) (by omega)) ⟨e, ho, ?_⟩
  refine ⟨.non, _, I.lset (its' := its ++ its2) hH e (by simp) (r.append r2) ?_, rfl, q⟩
  rw [List.length_append]
  omega
end
/-- x.extend(a tuple), x at a path -/
def gExtT (pf : Env → Option Pth) (ge : Env → Option M) : G Fl := fun ρ => match pf ρ with
  | some p => (match getP ρ p, ge ρ with
    | some (.lst ms), some (.dat (.tup ds)) => if ms.length + ds.length ≤ 100000 then some (.ok .nx (putP ρ p (.lst (ms ++ ds.map M.dat)))) else none
    | _, _ => none)
  | none => none
section
variable {K : Kx} {E : XK} {kp : Nat → Bool} {te tl : TE}
theorem rn_extT {pf : Env → Option Pth} {ge : Env → Option M} (hp : LP K tl pf) (he : EP K te ge) : RN K E kp (tDrop (tBM K.K "list" (rExtT K.K) tl (tCons te tNil))) (gExtT pf ge) := fun F H σ ρ as o D hs so e hx hpost => by
  unfold gExtT at e
  split at e
  case h_2 => cases e
  rename_i p e1
  split at e
  case h_2 => cases e
  rename_i ms ds em ed
  split at e
  case isFalse => cases e
  rename_i hl
  refine hp F H σ ρ as p _ _ hs so e1 em fun F1 H1 v bs g1 fo => ?_
  refine ⟨?_, ?_⟩
  · have ho := fo.own
    cases ho with
    | lst ha fa hv n => exact ty_list ha
  · refine he F1 H1 σ ρ as _ _ g1.fh (so.grow g1) ed fun F2 H2 w rs g2 r => ?_
    show rExtT K.K v [w] H2 (fun _ H1 => D.nx σ H1)
    obtain ⟨b, ws, rfl, hb, rw_⟩ := r.dat_inv.1.tup_inv
    have fo2 := fo.grow g2
    have ho := fo2.own
    cases ho with
    | lst ha fa hv n =>
      rename_i a vs xs
      refine ⟨a, b, vs, ws, rfl, rfl, ha, SqT.mono g2.fh hb, Nat.le_trans (by rw [hv.len, rw_.length]; exact hl) (by decide), ?_⟩
      have gm : Gr F2 H2 (a :: xs) F2 (upd H2 a (.lst (vs ++ ws))) (a :: xs) := Gr.mut g2.fh fa List.mem_cons_self
      have gm1 : Gr F2 H2 [a] F2 (upd H2 a (.lst (vs ++ ws))) [a] := Gr.mut g2.fh fa (by simp)
      have hv' : Owns K F2 (upd H2 a (.lst (vs ++ ws))) vs ms xs := hv.frame gm1 fun b hb z => n (by rw [List.mem_singleton.mp z] at hb; exact hb)
      have own' : Own K F2 (upd H2 a (.lst (vs ++ ws))) (.ref a) (.lst (ms ++ ds.map M.dat)) (a :: xs) := .lst upd_same fa (hv'.appDats rw_) n
      obtain ⟨as3, w1, w2, _⟩ := fo2.put' gm own'
      exact hpost.nx _ (Option.some.inj e).symm F2 _ σ as3 (.refl _) (((g1.trans g2).weak as).trans w2) w1
end
@[simp] theorem T_gExtT {pf : Env → Option Pth} {ge : Env → Option M} {ρ : Env} {Φ : Fl → Env → Prop} : T (gExtT pf ge) ρ Φ ↔ Tp (pf ρ) fun p => Tp (getP ρ p) fun l => Tp (asLst l) fun ms => Tp (ge ρ) fun e => ∃ ds, e = .dat (.tup ds) ∧ ms.length + ds.length ≤ 100000 ∧ Φ .nx (putP ρ p (.lst (ms ++ ds.map M.dat))) := by
  unfold gExtT T
  cases e1 : pf ρ with
  | none => simp [e1]
  | some p =>
    cases e2 : getP ρ p with
    | none => simp [e1, e2]
    | some l =>
      cases l with
      | lst ms =>
        cases e3 : ge ρ with
        | none => simp [e1, e2, e3, asLst]
        | some m =>
          cases m with
          | dat d =>
            cases d with
            | tup ds =>
              by_cases h : ms.length + ds.length ≤ 100000 <;> simp [e1, e2, e3, asLst, h]
            | _ => simp [e1, e2, e3, asLst]
          | _ => simp [e1, e2, e3, asLst]
      | _ => simp [e1, e2, asLst]
end Y
/-! Y: where an exception is handled: comprehensions, defs that know the exception's class, isinstance of it. -/
namespace Y
open PySem PySem.Spec PyProof.Rows L2 HotX L2H
variable [TabC]
section
variable {X : Cx}
/-- a context with one more pinned object -/
abbrev pinX (X : Cx) (p : Addr × Obj) : Cx := { X with pn := [p] }
theorem okP {p : Addr × Obj} (o : X.Ok) : (pinX X p).Ok :=
  ⟨o.mod, o.kind, o.glob, o.blt, o.above, o.inj, o.has, o.cab, o.hd, o.frames, o.stk, o.exf, o.bs, o.bsz, o.noex, o.exfs, o.funs, o.frf⟩
theorem okN {p : Addr × Obj} (o : (pinX X p).Ok) : X.Ok :=
  ⟨o.mod, o.kind, o.glob, o.blt, o.above, o.inj, o.has, o.cab, o.hd, o.frames, o.stk, o.exf, o.bs, o.bsz, o.noex, o.exfs, o.funs, o.frf⟩
theorem pinUp {p : Addr × Obj} {pins : List (Addr × Obj)} {σ : L2.St} {H : Hp} {s : Shared} (I : Inv X pins σ H s) (h : s.heap.get? p.1 = some p.2 ∧ H p.1 = none ∧ p.1 ≠ X.env.locals ∧ p.1 ∉ X.fs ∧ ∀ v, p.2.data ≠ .cell v) : Inv (pinX X p) pins σ H s :=
  ⟨okP I.ok, I.os, I.bare, I.base, I.loc, I.cell, I.free, I.freeC, fun q hq => by
    rcases List.mem_cons.mp (show q ∈ p :: pins from hq) with e | e
    · rw [e]
      exact h
    · exact I.pin q (List.mem_append_right _ e), I.hok, I.len⟩
theorem pinDn {p : Addr × Obj} {pins : List (Addr × Obj)} {σ : L2.St} {H : Hp} {s : Shared} (hX : X.pn = []) (I : Inv (pinX X p) pins σ H s) : Inv X pins σ H s :=
  ⟨okN I.ok, I.os, I.bare, I.base, I.loc, I.cell, I.free, I.freeC, fun q hq => by
    rw [hX] at hq
    exact I.pin q (List.mem_append_right _ hq), I.hok, I.len⟩
/-- [elt for target in iter if ..] where an exception is handled -/
theorem pe_lcH {elt tg iter : Expr} {ifs : List Expr} {scope : Scope} {own : List (Str × Nat)} {pos : Pos} {wi : TI} {g : TG} {tt : TT} {te : TE} (hc : HotC X) (hN : X.N.Nodup) (hi : PIH X tg iter wi) (ok : BlkOk X.N X.env.scope scope own)
    (hg : ∀ (s : Shared) (H : Hp) (C : Addr) (cl : List (Str × Addr)) (fp : List Addr), PG (X.blk s H scope (compEnvC scope cl C X.env) fp) tg g) (ht : ∀ (s : Shared) (H : Hp) (C : Addr) (cl : List (Str × Addr)) (fp : List Addr), PTs (X.blk s H scope (compEnvC scope cl C X.env) fp) ifs tt)
    (he : ∀ (s : Shared) (H : Hp) (C : Addr) (cl : List (Str × Addr)) (fp : List Addr), PE (X.blk s H scope (compEnvC scope cl C X.env) fp) elt te) (hs : ∀ x, foldedSetIterable iter X.env x = pure x := by intro _; rfl) :
    PE X (.ListComp elt [⟨tg, iter, ifs, 0⟩] scope pos) (tLc wi g tt te (own.map (·.2))) := by
  refine ⟨fun pins s σ H Q I h => ?_⟩
  rw [eval_ListComp]
  obtain ⟨p, hot, hp⟩ := hc
  have free0 : ∀ y ∈ scope.names, y.2 = .free → ∃ c, X.env.cells.lookup y.1 = some c := fun y hy e => (ok.free y hy e).elim (fun k => I.ok.has _ (.inl k)) (fun k => I.ok.has _ (.inr k))
  refine wpAny_comprehension_free (use := none) rfl hs (closure_ok free0) ok.kind (fun y hy e => by rw [ok.uniq y hy, e])
    (thn (hi.run pins s σ H _ I h) fun xv s1 hx => thn hx fun itv s2 h2 => ?_)
  obtain ⟨it, fp, tn, J, H2, e, I2, T, st2, f2, q⟩ := h2
  subst e
  refine wpAny_newObj_type (newEnv_comp ?_) (by show 0 ≤ sizeLine; decide)
  generalize hD : s2.heap.objs.size = D
  obtain ⟨W, ⟨m0, w0⟩, turn⟩ := q D (I2.hok.fresh (Nat.le_of_eq hD))
  generalize hs3 : ({ s2 with heap := s2.heap.push { cls := .type "list", data := .seq ([] : List Value).toArray } } : Shared) = s3
  have h3 : s3.heap = s2.heap.push { cls := .type "list", data := .seq ([] : List Value).toArray } := by rw [← hs3]
  have I3 : Inv X pins σ (upd H2 D (.lst [])) s3 := by
    rw [← hs3]
    refine I2.laid (t' := s2.toks) (fun b o e => Heap.get?_push_of_some _ e) (Nat.le_of_eq hD) ⟨Nat.zero_le _, [], 0, .nil, ?_⟩
    rw [← hD]
    exact Heap.get?_push_size _ rfl
  have f3 : ∀ b ∈ fp, FpOk X pins (upd H2 D (.lst [])) b ∧ b < s3.heap.objs.size := fun b hb => by
    obtain ⟨o, e, _⟩ := T.obj _ _ st2 b hb
    have hlt := Heap.lt_size e
    refine ⟨⟨?_, (f2 b hb).2⟩, by rw [h3, Heap.size_push]; exact Nat.lt_succ_of_lt hlt⟩
    rw [upd_ne (by rw [← hD]; exact Nat.ne_of_lt hlt)]
    exact (f2 b hb).1
  have st3 : tn 0 s3.heap := T.keep _ _ _ st2 fun b _ o e => by rw [h3]; exact Heap.get?_push_of_some _ e
  have I4 := block_start I3 ok hN f3
  have pg := hg s3 (upd H2 D (.lst [])) s3.heap.objs.size (cellsFrom (s3.heap.objs.size + 1) scope.names (cloFrom X.env.cells scope.names [])) fp
  have pt := ht s3 (upd H2 D (.lst [])) s3.heap.objs.size (cellsFrom (s3.heap.objs.size + 1) scope.names (cloFrom X.env.cells scope.names [])) fp
  have pe := he s3 (upd H2 D (.lst [])) s3.heap.objs.size (cellsFrom (s3.heap.objs.size + 1) scope.names (cloFrom X.env.cells scope.names [])) fp
  have hRR : ∀ C s' m H', Inv X pins σ H' s' → Q (.ref D) H' → s'.heap.Ns C m → FpOk X pins H' C → compPost (model X.prog X.w) X.A X.xe none (L2.EP X pins σ Q) (.ref D) C (.ok .next) s' := fun C s' m H' I' q hn f => ⟨m, hn, fun h'' sb => by
    obtain ⟨f0, f1, f2, f3, f4, f5⟩ := f
    exact ⟨.ref D, H', I'.turned (t' := s'.toks) (fun b o hb e => (sb.2 b hb).trans e) f0 f1 f3 f4 f5, rfl, q⟩⟩
  show codeAny _ _ (.compStart (.ListComp elt [⟨tg, iter, ifs, 0⟩] scope pos) 0 (.ref it) (.ref D) (compEnvC scope (cellsFrom (s3.heap.objs.size + 1) scope.names (cloFrom X.env.cells scope.names [])) s3.heap.objs.size X.env)) (compPost (model X.prog X.w) X.A X.xe none (L2.EP X pins σ Q) (.ref D) s3.heap.objs.size) { s3 with heap := pushCells (s3.heap.push { cls := .type "dict", data := .dict #[] }) scope.names }
  generalize hce : compEnvC scope (cellsFrom (s3.heap.objs.size + 1) scope.names (cloFrom X.env.cells scope.names [])) s3.heap.objs.size X.env = ce at I4 pg pt pe ⊢
  have cL : ce.locals = s3.heap.objs.size := by subst hce; rfl
  generalize hH3 : upd H2 D (.lst []) = H3 at I3 I4 pg pt pe w0 f3
  generalize hs4 : ({ s3 with heap := pushCells (s3.heap.push { cls := .type "dict", data := .dict #[] }) scope.names } : Shared) = s4 at I4 ⊢
  have st4 : tn 0 s4.heap := T.keep _ _ _ st3 fun b _ o e => by rw [← hs4]; exact pushCells_keeps _ _ _ _ (Heap.get?_push_of_some _ e)
  -- the exception stands through the block
  have P3 := I3.pin p (List.mem_append_left _ hp)
  have pfp : p.1 ∉ fp := fun z => (f3 p.1 z).1.2.2.2.2.2 p (List.mem_append_left _ hp) rfl
  have pst : p.1 ∉ frs X.stack := fun hm => (List.mem_cons.mp (I3.stkSub p.1 hm)).elim P3.2.2.1 P3.2.2.2.1
  have pin5 : ∀ {pins' : List (Addr × Obj)} {σ' : L2.St} {H' : Hp} {s' : Shared}, Inv (X.blk s3 H3 scope ce fp) pins' σ' H' s' → Inv (pinX (X.blk s3 H3 scope ce fp) p) pins' σ' H' s' := fun {pins' σ' H' s'} I' =>
    pinUp I' ⟨I'.base.keep p.1 p.2 P3.1 P3.2.1 pst pfp, I'.base.free p.1 p.2 P3.1 P3.2.1 pfp, by
      show p.1 ≠ ce.locals
      rw [cL]
      exact Nat.ne_of_lt (Heap.lt_size P3.1), pst, P3.2.2.2.2⟩
  have hc5 : HotC (pinX (X.blk s3 H3 scope ce fp) p) := ⟨p, hot, List.mem_cons_self⟩
  have stat : ∀ {σ' : L2.St} {H' : Hp} {s' : Shared}, Inv (X.blk s3 H3 scope ce fp) [] σ' H' s' → (∀ b ∈ fp, H' b = none) → ∀ b ∈ fp, FpOk (X.blk s3 H3 scope ce fp) [] H' b := fun {σ' H' s'} I' hn b hb =>
    ⟨hn b hb, (I'.ok.exf b hb).1, I'.ok.exfs b hb, .inl hb, fun x c e => (I'.ok.exf b hb).2 x c e, fun p hp => absurd (show p ∈ ([] : List (Addr × Obj)) ++ [] from hp) (by simp)⟩
  have statP : ∀ {σ' : L2.St} {H' : Hp} {s' : Shared}, Inv (X.blk s3 H3 scope ce fp) [] σ' H' s' → (∀ b ∈ fp, H' b = none) → ∀ b ∈ fp, FpOk (pinX (X.blk s3 H3 scope ce fp) p) [] H' b := fun {σ' H' s'} I' hn b hb =>
    ⟨hn b hb, (I'.ok.exf b hb).1, I'.ok.exfs b hb, .inl hb, fun x c e => (I'.ok.exf b hb).2 x c e, fun q hq z => by
      have hq' : q = p := by simpa using (show q ∈ [p] ++ ([] : List (Addr × Obj)) from hq)
      rw [hq'] at z
      exact pfp (by rw [z]; exact hb)⟩
  have loop : codeAny (model X.prog X.w) X.A (.compLoop (.ListComp elt [⟨tg, iter, ifs, 0⟩] scope pos) 0 (.ref it) (.ref D) ce) (compPost (model X.prog X.w) X.A X.xe none (L2.EP X pins σ Q) (.ref D) s3.heap.objs.size) s4 := by
    refine compLoop_any (fun n s' => ∃ i H', Inv (X.blk s3 H3 scope ce fp) [] (wipe σ (own.map (·.2))) H' s' ∧ tn i s'.heap ∧ (∀ b ∈ fp, H' b = none) ∧ W i n H') ?_ m0 ⟨0, H3, I4, st4, fun b hb => (f3 b hb).1.1, w0⟩
    rintro n s5 ⟨i, H5, I5, st5, n5, w5⟩
    rcases turn i n H5 w5 with ⟨stop, qq⟩ | ⟨go, Nx, hNx, step⟩
    · have td := T.done (pinX (X.blk s3 H3 scope ce fp) p) rfl rfl rfl hc5 i [] s5 _ H5 (fun _ _ => False) (pin5 I5) (statP I5 n5) st5 stop
      refine thnF td fun r s6 ⟨hr, I6p⟩ => ?_
      subst hr
      have I6 : Inv (X.blk s3 H3 scope ce fp) [] (wipe σ (own.map (·.2))) H5 s6 := pinDn (X := X.blk s3 H3 scope ce fp) rfl I6p
      have I7 : Inv X pins σ H5 s6 := I3.call' (ch := fp) I6.os I6.base I6.hok I6.bare fun b hb => ⟨(f3 b hb).1.2.2.2.1, (f3 b hb).1.2.1, (f3 b hb).1.2.2.2.2.1, (f3 b hb).1.2.2.2.2.2⟩
      have nC : H5 s3.heap.objs.size = none := by
        have z : H5 ce.locals = none := I6.free
        rw [cL] at z
        exact z
      obtain ⟨m, hn, _⟩ := I6.loc
      have hn : s6.heap.Ns ce.locals m := hn
      rw [cL] at hn
      exact hRR s3.heap.objs.size s6 m H5 I7 qq hn (I3.fpOk (Nat.le_refl _) nC)
    · have ti := T.item (pinX (X.blk s3 H3 scope ce fp) p) rfl rfl rfl hc5 i [] s5 _ H5 (fun _ _ => False) (pin5 I5) (statP I5 n5) st5 go
      refine thnF ti fun r s6 ⟨u, hr, h6⟩ => ?_
      subst hr
      refine thnF h6 fun _ s7 ⟨x, H7, I7p, r7, y7, st7, n7⟩ => ?_
      have I7 : Inv (X.blk s3 H3 scope ce fp) [] (wipe σ (own.map (·.2))) H7 s7 := pinDn (X := X.blk s3 H3 scope ce fp) rfl I7p
      have I7' := I7.pinned (stat I7 n7) (T.obj _ _ st7)
      refine thnF (pg.run _ s7 _ H7 x u _ I7' r7 (step x H7 y7)) fun _ s8 ⟨σ8, H8, I8, hw8, q8⟩ => ?_
      refine thnF (pt.run _ s8 σ8 H8 _ I8 q8) fun b s9 ⟨H9, I9, q9⟩ => ?_
      have fin : ∀ {s' : Shared} {H' : Hp}, Inv (X.blk s3 H3 scope ce fp) ([] ++ pinsAt fp s7.heap) σ8 H' s' → Nx H' → ∃ m, m < n ∧ ∃ i H', Inv (X.blk s3 H3 scope ce fp) [] (wipe σ (own.map (·.2))) H' s' ∧ tn i s'.heap ∧ (∀ b ∈ fp, H' b = none) ∧ W i m H' := fun {s' H'} I' nx => by
        obtain ⟨m', hm, w'⟩ := hNx H' nx
        have pin' : ∀ b ∈ fp, ∀ o, s7.heap.get? b = some o → s'.heap.get? b = some o ∧ H' b = none := fun b hb o e =>
          let z := I'.pin (b, o) (List.mem_append_right _ (List.mem_append_right _ (mem_pinsAt hb e)))
          ⟨z.1, z.2.1⟩
        have hl : (wipe σ (own.map (·.2))).length = σ8.length := by rw [← hw8, wipe_length]
        refine ⟨m', hm, i + 1, H', (I'.unpinned (pins := [])).weak hl (fun j v e => ?_), T.keep _ _ _ st7 fun b hb o e => (pin' b hb o e).1, fun b hb => ?_, w'⟩
        · rw [← hw8] at e
          exact (wipe_some e).1
        · obtain ⟨o, e, _⟩ := T.obj _ _ st7 b hb
          exact (pin' b hb o e).2
      cases b with
      | false =>
        simp only [Bool.false_eq_true, if_false] at q9 ⊢
        exact fin I9 q9
      | true =>
        simp only [if_true] at q9 ⊢
        refine thnF (pe.run _ s9 σ8 H9 _ I9 q9) fun z s10 ⟨yv, H10, I10, r10, acc, hD10, hz10, nx⟩ => ?_
        exact app_ok (X := X.blk s3 H3 scope ce fp) I10 hD10 hz10 r10 fun s11 I11 => fin I11 nx
  exact codeAny_compStart_list loop (T.self X.A 0 _ _ _ st4 loop)
end
end Y
/-! Y: exceptions: raising, try .. except .. as e, the def that tells its classes. -/
namespace Y
open PySem PySem.Spec PyProof.Rows L2
variable [TabC]
/-! ### a def that is told the exception that is handled -/
structure FnE (P : Program) (w : World) (K : PySem.W.Frag) (mg : Str → Option Value) (base : Heap) (k : Nat) (f : Addr) (fd : FuncData) (ps : List Str) (sp : Addr → Value → Sp) : Prop where
  len : ∀ a c vs H Q E, sp a c vs H Q E → vs.length = ps.length
  run : ∀ (A : Around) (outer : List PySem.Env) (s : Shared) (H : Hp) (args : Args) (us : List Value) (vs : List V) (Q : VK) (E : XK) (p : Addr × Obj) (c : Value), L2H.RoomH k A → L2H.Hot1 A p → L2N.Zn c none p.2 → L2H.PinOk outer H s p → Env0 P w K mg base A outer s H → BindsTo s fd args (ps.zip us) → Vals vs us →
    sp p.1 c vs H Q E → codeAny (model P w) A (.call (.ref f) args) (CR CX0 outer P w H s Q E) s
theorem fn_ofE {P : Program} {w : World} {K : PySem.W.Frag} {mg : Str → Option Value} {base : Heap} {k : Nat} {x qual : Str} {params : Arguments} {body : List Stmt} {scope : Scope} {f : Addr} {fd : FuncData} {N ps : List Str} {sp : Addr → Value → Sp}
    (F : FunD K x qual params body scope [] [] f fd) (S : FnScope N ps scope) (len : ∀ a c vs H Q E, sp a c vs H Q E → vs.length = ps.length)
    (hbody : ∀ (cdv : Value) (A : Around) (outer : List PySem.Env) (s : Shared) (H : Hp) (vs : List V) (Q : VK) (E : XK) (p : Addr × Obj) (c : Value), L2H.Hot1 A p → L2N.Zn c none p.2 → L2H.RoomH k (A.deeper (envOfC qual scope s.heap.objs.size f cdv)) → sp p.1 c vs H Q E →
      ∃ t, PSs (L2H.cxH CX0 P w K mg base N qual scope f cdv A outer s H E p) body t ∧ t { nx := fun _ H' => Q .non H', rt := Q } (L2.start N vs) H) : FnE P w K mg base (k + 1) f fd ps sp := by
  obtain ⟨oc, od, dV, kV, doc, pm, an, cdv, ct, osl, rfl, lk, hcd, _, _⟩ := F.ex
  refine ⟨len, fun A outer s H args us vs Q E p c hr hot hz hpin e0 hb r hsp => ?_⟩
  have hl := len _ _ _ _ _ _ hsp
  have KX : K.In s.heap := e0.mod.kin.keeps fun b o e => (e0.bs b o e).1
  have lim : s.heap.NoLimit := e0.mod.nolimit.keeps fun b o e => (e0.bs b o e).1
  have hkind : ∀ y ∈ ps.zip us, scope.names.lookup y.1 = some .local ∨ (scope.names.lookup y.1 = some .cell ∧ ((cellsFrom (s.heap.objs.size + 1) scope.names []).lookup y.1).isSome = true) := fun ⟨n, v⟩ hy =>
    (S.par n (List.of_mem_zip hy).1).imp id fun q => ⟨q, PySem.W.cellsFrom_some _ _ _ (.inl q)⟩
  refine codeAny_call_function hr.depth (KX _ _ lk) rfl S.co S.gen rfl (PySem.W.codeRec_of KX hcd) (hb _ _ _ _ ?_)
  refine wpAny_newFunctionEnv_cells S.kind hkind fun env he s1 x => ?_
  subst he
  refine ⟨lim.keeps x.toInCall.keep, codeAny_func ?_⟩
  obtain ⟨t, ht, hq⟩ := hbody cdv A outer s H vs Q E p c hot hz (hr.deeper _) hsp
  have I : Inv (L2H.cxH CX0 P w K mg base N qual scope f cdv A outer s H E p) [] (L2.start N vs) H s1 := L2H.inv_startH S hpin e0 hl r x
  refine wpAny_mono (ht.run [] s1 (L2.start N vs) H _ I hq) (fun fl s' hs => ?_) fun e s' hs => hs
  have fin : ∀ {σ' : L2.St} {H' : Hp} {v : V} {u : Value}, Inv (L2H.cxH CX0 P w K mg base N qual scope f cdv A outer s H E p) [] σ' H' s' → RelV v u → Q v H' → CE outer P w H s Q u s' :=
    fun {σ' H' v u} J rv q => ⟨v, H', J.os, J.bare, J.base, J.hok, rv, q⟩
  cases fl with
  | ret u =>
    obtain ⟨v, σ', H', J, rv, q⟩ := hs
    exact fin J rv q
  | next =>
    obtain ⟨σ', H', J, q⟩ := hs
    exact fin (v := V.non) (u := Value.none) J rfl q
  | brk =>
    obtain ⟨_, _, _, q⟩ := hs
    exact False.elim q
  | cont =>
    obtain ⟨_, _, _, q⟩ := hs
    exact False.elim q
def tMethW (C : Addr) (m : Str) (sp : Sp) (E : L2.St → XK) (ta : TE) (t : TA) : TE := fun σ H Q => ta σ H fun x H1 => ∃ a dx fs, x = .ref a ∧ H1 a = some (.ins C dx fs) ∧ fs.lookup m = none ∧ t σ H1 fun vs H2 => sp (x :: vs) H2 Q (E σ)
section
variable {X : Cx} {CX : CXT} {k : Nat} {f C : Addr} {fd : FuncData} {ps : List Str} {sp : Sp} {E : L2.St → XK} {x m : Str} {q pos apos : Pos} {e o : Expr} {es : List Expr} {ta : TE} {t : TA}
theorem pe_methW {pl : Sem Bool} (he : PE X o ta) (c : Cls X.K C) (hm : Meth X.K C m f) (F : FnOk X.prog X.w X.K X.mg X.base CX k f fd ps sp) (hr : Room k X.A) (hb : Binds X.K fd ps []) (hx : ∀ σ, PassesAt CX X σ (E σ)) (ha : PA X (e :: es) t)
    (hst : starEach (e :: es) X.env = (false, eval e X.env) :: starEach es X.env := by rfl) (hpl : (backTo pos (starEach es X.env)).any (·.1) = false := by rfl)
    (ht : eval (.Call (.Attribute o m apos) (e :: es) [] pos) X.env = (do
      let ov ← eval o X.env
      standAt apos.atName
      let (f, first) ← holding [ov] (getMethod ov m pl)
      callWith pos f first (backTo pos (starEach (e :: es) X.env)) (backToKw pos (keywordEach [] X.env))) := by rfl) :
    PE X (.Call (.Attribute o m apos) (e :: es) [] pos) (tMethW C m sp E ta t) := by
  refine ⟨fun pins s σ H Q I h => ?_⟩
  refine PySem.W.methodCall_KW (pl := pl) (thn (he.run pins s σ H _ I h) fun u s1 ⟨x, H1, I1, rx, a, dx, fs, ex, ea, l, q⟩ => ?_) ht
  subst ex
  obtain rfl : u = Value.ref a := rx
  refine getmeth_ok I1 ea c hm l ?_
  refine PySem.W.callWith_K (first := [.ref a]) (h₀ := X.base) I.ok.mod.kin hm.kp (thn (ha.run pos pins s1 σ H1 _ I1 q) fun us s2 ⟨vs, H2, I2, r, q2⟩ => ⟨I2.kIn, ?_⟩) hst hpl
  exact run_fnS (us := .ref a :: us) (vs := .ref a :: vs) F hr hb (hx σ) I2 (.cons rfl r) q2
theorem pe_methW0 {pl : Sem Bool} (he : PE X o ta) (c : Cls X.K C) (hm : Meth X.K C m f) (F : FnOk X.prog X.w X.K X.mg X.base CX k f fd ps sp) (hr : Room k X.A) (hb : Binds X.K fd ps []) (hx : ∀ σ, PassesAt CX X σ (E σ))
    (ht : eval (.Call (.Attribute o m apos) [] [] pos) X.env = (do
      let ov ← eval o X.env
      standAt apos.atName
      let (f, first) ← holding [ov] (getMethod ov m pl)
      callWith pos f first (backTo pos (starEach [] X.env)) (backToKw pos (keywordEach [] X.env))) := by rfl) :
    PE X (.Call (.Attribute o m apos) [] [] pos) (tMethW C m sp E ta tNil) := by
  refine ⟨fun pins s σ H Q I h => ?_⟩
  refine PySem.W.methodCall_KW (pl := pl) (thn (he.run pins s σ H _ I h) fun u s1 ⟨x, H1, I1, rx, a, dx, fs, ex, ea, l, q⟩ => ?_) ht
  subst ex
  obtain rfl : u = Value.ref a := rx
  refine getmeth_ok I1 ea c hm l ?_
  exact PySem.W.callWith_K0 (first := [.ref a]) I1.kIn hm.kp (run_fnS (us := [.ref a]) (vs := [.ref a]) F hr hb (hx σ) I1 (.cons rfl .nil) q)
end
section
variable {X : Cx} {k : Nat} {f : Addr} {fd : FuncData} {ps : List Str} {sp : Addr → Value → Sp} {x : Str} {q pos : Pos} {e : Expr} {es : List Expr} {t : TA}
def tCallE (sp : Sp) (t : TA) : TE := fun σ H Q => t σ H fun vs H1 => sp vs H1 Q fun _ _ _ => False
theorem pe_callE {a : Addr} {oe : Obj} {c : Value} {pn : List (Addr × Obj)} (F : FnE X.prog X.w X.K X.mg X.base k f fd ps sp) (hr : L2H.RoomH k (X.A.mark (some (.ref a)))) (hz : L2N.Zn c none oe) (hd : ∃ vs, oe.data = .fields vs) (hg : Gl X x) (hm : X.mg x = some (.ref f)) (hk : PySem.W.keepIn X.K (.ref f) = true) (hb : Binds X.K fd ps [])
    (ha : PA (X.suite a ((a, oe) :: pn)) (e :: es) t) (hdb : (x == ("__debug__" : Str)) = false := by decide) (he : starEach (e :: es) X.env = (false, eval e X.env) :: starEach es X.env := by rfl) (hpl : (backTo pos (starEach es X.env)).any (·.1) = false := by rfl) :
    PE (X.suite a ((a, oe) :: pn)) (.Call (.Name x q) (e :: es) [] pos) (tCallE (sp a c) t) := by
  refine ⟨fun pins s σ H Q I h => ?_⟩
  refine wpAny_Call_Name_kw (ld_glob I hg hm ?_ hdb)
  refine PySem.W.callWith_K (h₀ := X.base) I.ok.mod.kin hk (thn (ha.run pos pins s σ H _ I h) fun us s1 ⟨vs, H1, I1, r, q⟩ => ⟨I1.kIn, ?_⟩) he hpl
  have hl : us.length = ps.length := by rw [← r.length]; exact F.len _ _ _ _ _ _ q
  have b := hb s1 us I1.kIn (by rw [List.append_nil]; exact hl)
  rw [List.append_nil] at b
  have P1 := I1.pin (a, oe) (List.mem_append_left _ List.mem_cons_self)
  have hpin : L2H.PinOk X.stack H1 s1 (a, oe) := ⟨P1.1, P1.2.1, fun hm => (List.mem_cons.mp (I1.stkSub a hm)).elim P1.2.2.1 P1.2.2.2.1, P1.2.2.2.2⟩
  have hot : L2H.Hot1 (X.A.mark (some (.ref a))) (a, oe) := by
    obtain ⟨vs0, hv⟩ := hd
    exact ⟨rfl, vs0, hv, hz.2.2 vs0 hv⟩
  refine wpAny_call (codeAny_mono (F.run (X.A.mark (some (.ref a))) X.stack s1 H1 ⟨us, []⟩ us vs Q (fun _ _ _ => False) (a, oe) c hr hot hz hpin I1.env0 b r q) fun r s' hq => ?_)
  cases r with
  | error e => exact hq.elim
  | ok fl =>
    cases fl with
    | ret u => exact I1.after hq
    | next => exact False.elim hq
    | brk => exact False.elim hq
    | cont => exact False.elim hq
end
/-- isinstance(e, c), e an exception that is pinned -/
theorem call_isP {X : Cx} {a D : Addr} {oe : Obj} (C : ExcC X.K D) (hp : (a, oe) ∈ X.pn) (hz : Zc (.ref D) none oe) (hf : ∃ vs, oe.data = .fields vs) : CallR X (.builtin "isinstance") (rIsE X.K D a) := by
  intro pins s σ H xs us Q I r h
  obtain ⟨c, cv, b, rfl, hcv, e, q⟩ := h
  cases r with
  | cons rx rr =>
    cases rr with
    | cons rt rr =>
      cases rr
      cases rx
      have ec := hcv _ rt
      subst ec
      obtain ⟨hget, _⟩ := I.pin (a, oe) (List.mem_append.mpr (.inl hp))
      obtain ⟨vs, hv⟩ := hf
      have J : PySem.W.InstAt s.heap a oe D none := by
        obtain ⟨oc, od, oda, osl⟩ := oe
        obtain ⟨h1, h2⟩ := hz
        dsimp only at h1 h2 hv
        subst h1 h2 hv
        exact ⟨hget, rfl, rfl, trivial⟩
      exact PySem.W.kia_one (PySem.W.handS_kitx_exc C.hg C.hk C.hs C.hd C.ha C.hn C.ht C.hm) I.kIn J e (fun z => nomatch z) fun tk => ⟨.bl b, H, I.kept (t' := tk) fun _ _ z => z, rfl, q⟩
theorem isE_ok {K : PySem.W.Frag} {D a : Addr} {c : V} {u : Value} {b : Bool} {σ : L2.St} {H : Hp} {Q : VK} (h0 : σ[0]? = some (some (.ref a))) (hu : ∀ w, RelV c w → w = u) (hk : PySem.W.kitOne K (.ref D) u = some b) (q : Q (.bl b) H) : tCB (rIsE K D a) (tCons (tVar 0) (tCons (tC c) tNil)) σ H Q :=
  ⟨_, h0, c, u, b, rfl, hu, hk, q⟩

/-! ### what is said of an own class of exceptions -/
def bmVE : List Value := [.type "ValueError", .type "Exception", .type "BaseException", .type "object"]
structure ExcF (K : Kx) (mg : Str → Option Value) (nest : Addr) (x : Str) (n : Nat) : Prop where
  g : mg x = some (.ref (K.ca n))
  ex : PySem.W.excIn K.K (K.ca n) bmVE "ValueError.__new__" = true
  kp : PySem.W.keepIn K.K (.ref (K.ca n)) = true
  r1 : PySem.W.subIn K.K (.ref (K.ca n)) (.type "BaseException") = some true
  r2 : PySem.W.typeIn K.K (.ref (K.ca n)) = some (.type "type")
  ne : PySem.W.exmOne K.K (.ref (K.ca n)) (.ref nest) = some true
  se : PySem.W.exmOne K.K (.ref (K.ca n)) (.ref (K.ca n)) = some true

/-! ### raise -/
def gRaise (n : Nat) : G Fl := fun ρ => some (.ex n ρ)
def tRaise (K : Kx) (E : XK) (n : Nat) : TS := fun _ _ H => E (.ref (K.ca n)) none H
theorem ps_raiseX {X : Cx} {K : Kx} (hK : X.K = K.K) {E : XK} {nest : Addr} {x m : Str} {n j : Nat} {p p2 p3 pos : Pos} (hc : X.calm = true) (tk : L2N.Takes X (fun cls d _ H => E cls d H)) (F : ExcF K X.mg nest x n) (hg : Gl X x) (hdb : (x == ("__debug__" : Str)) = false := by decide) :
    PS X (.Raise (some (.Call (.Name x p) [.Constant (.str m) j p2] [] p3)) none pos) (tRaise K E n) :=
  L2N.ps_raise hc tk (L2N.pmk_own (C := K.ca n) PySem.F.excBase_ValueError (by rw [hK]; exact F.ex) F.g (by rw [hK]; exact F.kp) (raises_own (by rw [hK]; exact F.r1) (by rw [hK]; exact F.r2)) hg hdb)
section
variable {K : Kx} {E : XK} {kp : Nat → Bool} {F F' F1 F2 H H' H1 H2 : Hp} {as as' as1 as2 bs : List Addr} {σ σ' σ1 : L2.St} {ρ : Env} {t u tb : TS} {g k gb : G Fl} {te : TE}
theorem rn_raise (n : Nat) : RN K E kp (tRaise K E n) (gRaise n) := fun F H σ ρ as o D hs so e hx hp => by
  cases e
  exact hx n ρ rfl F H σ as (.refl _) (.refl hs) so

/-! ### statements within a try: W is told the slots -/
def XPW {α : Type} (K : Kx) (W : WX) (kp : Nat → Bool) (F H : Hp) (σ : L2.St) (as : List Addr) (o : Rs α) : Prop :=
  ∀ C ρ', o = .ex C ρ' → ∀ F' H' σ' as', Keeps kp σ σ' → Gr F H as F' H' as' → SO K F' H' σ' ρ' as' → W (.ref (K.ca C)) none σ' H'
def RW (K : Kx) (W : WX) (kp : Nat → Bool) (t : TS) (g : G Fl) : Prop :=
  ∀ F H σ ρ as o D, Same F H → SO K F H σ ρ as → g ρ = some o → XPW K W kp F H σ as o → FP K kp F H σ as o D → t D σ H
theorem XPW.step {α : Type} {W : WX} {o : Rs α} (h : XPW K W kp F H σ as o) (k : Keeps kp σ σ1) (g : Gr F H as F1 H1 as1) : XPW K W kp F1 H1 σ1 as1 o :=
  fun C ρ' e F' H' σ' as' k' g' s' => h C ρ' e F' H' σ' as' (k.trans k') (g.trans g') s'
theorem rw_calm {W : WX} (h : RN K (fun _ _ _ => True) kp t g) : RW K W kp t g := fun F H σ ρ as o D hs so e _ hp => h F H σ ρ as o D hs so e (fun _ _ _ _ _ _ _ _ _ _ => trivial) hp
theorem rw_seq {W : WX} (h1 : RW K W kp t g) (h2 : RW K W kp u k) : RW K W kp (tSeq t u) (gThen g k) := fun F H σ ρ as o D hs so e hx hp => by
  rcases gBind_cases e with ⟨C, ρ', e1, eo⟩ | ⟨f, ρ', e1, eo⟩
  · subst eo
    refine h1 F H σ ρ as (.ex C ρ') _ hs so e1 hx FP.ex
  · refine h1 F H σ ρ as (.ok f ρ') _ hs so e1 (fun C ρ'' e' => by cases e') ?_
    cases f with
    | nx =>
      refine ⟨fun ρ'' e2 F1 H1 σ1 as1 k1 g1 s1 => ?_, ?_, ?_, ?_⟩
      · cases e2
        exact h2 F1 H1 σ1 _ as1 o D g1.fh s1 eo (hx.step k1 g1) (hp.step k1 g1)
      all_goals first | (intro _ e'; cases e'; done) | (intro _ _ e'; cases e'; done)
    | bk =>
      obtain rfl := gRet_ok eo
      exact ⟨fun _ e => (by cases e), hp.bk, hp.ct, hp.rt⟩
    | ct =>
      obtain rfl := gRet_ok eo
      exact ⟨fun _ e => (by cases e), hp.bk, hp.ct, hp.rt⟩
    | rt m =>
      obtain rfl := gRet_ok eo
      exact ⟨fun _ e => (by cases e), hp.bk, hp.ct, hp.rt⟩
theorem rw_if {W : WX} {tt : TT} {c : Env → Option Bool} (hc : EPT K tt c) (h1 : RW K W kp t g) (h2 : RW K W kp u k) : RW K W kp (tIfS tt t u) (sIf (gOf c) g k) := fun F H σ ρ as o D hs so e hx hp => by
  rcases gBind_cases e with ⟨C, ρ', e1, eo⟩ | ⟨b, ρ', e1, eo⟩
  · obtain ⟨b, e2, e3⟩ := gOf_ok e1
    cases e3
  · obtain ⟨b', e2, e3⟩ := gOf_ok e1
    cases e3
    refine hc F H σ ρ as b _ hs so e2 fun F1 H1 g1 => ?_
    have so1 := so.grow g1
    cases b with
    | true => exact h1 F1 H1 σ ρ as o D g1.fh so1 eo (hx.step (.refl _) (g1.weak as)) (hp.step (.refl _) (g1.weak as))
    | false => exact h2 F1 H1 σ ρ as o D g1.fh so1 eo (hx.step (.refl _) (g1.weak as)) (hp.step (.refl _) (g1.weak as))
/-- what may raise, its wish told the slots -/
def EXW (K : Kx) (W : WX) (te : TE) (g : G D) : Prop :=
  ∀ F H σ ρ as o Q, Same F H → SO K F H σ ρ as → g ρ = some o → (∀ C ρ', o = .ex C ρ' → ∀ F' H' as', Gr F H as F' H' as' → SO K F' H' σ ρ' as' → W (.ref (K.ca C)) none σ H') →
    (∀ x ρ', o = .ok x ρ' → ∀ F' H' as' a, Gr F H as F' H' as' → SO K F' H' σ ρ' as' → DV K F' a x → Q a H') → te σ H Q
theorem kpAll {σ σ' : L2.St} (h : Keeps (fun _ => true) σ σ') : σ' = σ := by
  apply List.ext_getElem?
  intro i
  exact h.1 i rfl
theorem exw_of {W : WX} {te : TE} {tw : L2.St → TE} {g : G D} (e : ∀ σ H Q, tw σ σ H Q → te σ H Q) (h : ∀ σ, EX K (fun c d H => W c d σ H) (fun _ => true) (tw σ) g) : EXW K W te g := fun F H σ ρ as o Q hs so eg hx hk =>
  e σ H Q (h σ F H σ ρ as o Q hs so eg (fun C ρ' eo F' H' σ' as' k' g' s' => by
    obtain rfl := kpAll k'
    exact hx C ρ' eo F' H' as' g' s') hk)
theorem rw_asg {W : WX} {i : Nat} {ge : G D} (hi : kp i = false) (h : EXW K W te ge) : RW K W kp (tAsg te (gName i)) (sSet i ge) := fun F H σ ρ as o D hs so e hx hp => by
  rcases gBind_cases e with ⟨C, ρ', e1, eo⟩ | ⟨d, ρ', e1, eo⟩
  · subst eo
    exact h F H σ ρ as _ _ hs so e1 (fun C' ρ'' e' F' H' as' g' s' => by cases e'; exact hx _ _ rfl F' H' σ as' (.refl _) g' s') fun x ρ'' e' => by cases e'
  · refine h F H σ ρ as _ _ hs so e1 (fun C' ρ'' e' => by cases e') fun x ρ'' e' F' H' as' v g' s' r => ?_
    cases e'
    have eo' := (Option.some.inj eo).symm
    obtain ⟨as2, q1, q2⟩ := s'.set i (Own.dat r) (by simp)
    exact hp.nx _ eo' F' H' (σ.set i (some v)) as2 (.set hi) (g'.less fun a z => (q2 a z).elim id (by simp)) q1
theorem rw_drop {W : WX} {ge : G D} (h : EXW K W te ge) : RW K W kp (tDrop te) (sDrop (mE ge)) := fun F H σ ρ as o D hs so e hx hp => by
  rcases gBind_cases e with ⟨C, ρ', e1, eo⟩ | ⟨m, ρ', e1, eo⟩
  · rcases gBind_cases e1 with ⟨C', ρ'', e2, eo2⟩ | ⟨d, ρ'', e2, eo2⟩
    · cases eo2
      subst eo
      exact h F H σ ρ as _ _ hs so e2 (fun C' ρ'' e' F' H' as' g' s' => by cases e'; exact hx _ _ rfl F' H' σ as' (.refl _) g' s') fun x ρ'' e' => by cases e'
    · cases eo2
  · rcases gBind_cases e1 with ⟨C', ρ'', e2, eo2⟩ | ⟨d, ρ'', e2, eo2⟩
    · cases eo2
    · cases eo2
      refine h F H σ ρ as _ _ hs so e2 (fun C' ρ'' e' => by cases e') fun x ρ'' e' F' H' as' v g' s' r => ?_
      cases e'
      exact hp.nx _ (gRet_ok eo) F' H' σ as' (.refl _) g' s'
/-- a method of what stands at a path, an own one, that may raise -/
theorem exw_meth {W : WX} {C : Nat} {x : Str} {f : List M → Option Rr} {pf : Env → Option Pth} {gs : Env → Option (List D)} {ta : TA} (hp : LP K te pf) (ha : PD K ta gs) :
    EXW K W (tMethW (K.ca C) x (spM K (some 0) f) (WE W) te ta) (gBind (gMeth false C x f pf gs) fun m => gOpt m.view) :=
  exw_of (tw := fun σ => tMeth (K.ca C) x (spM K (some 0) f) [] (WE W σ) te ta) (fun σ H Q h => by
    simpa only [tMethW, tMeth, List.append_nil] using h) fun σ => EM.ex (em_meth (calm := false) (C := C) (.inr rfl) hp ha)
theorem exw_call {W : WX} {f : List M → Option Rr} {gs : G (List D)} {ta : TA} (ha : ∀ σ : L2.St, EXs K (fun c d H => W c d σ H) (fun _ => true) ta gs) :
    EXW K W (tCallS (spM K none f) (WE W) ta) (gBind (gCall false f gs) fun m => gOpt m.view) :=
  exw_of (tw := fun σ => tCall (spM K none f) [] (WE W σ) ta) (fun σ H Q h => by
    simpa only [tCallS, tCall, List.append_nil] using h) fun σ => EM.ex (em_call (calm := false) (.inr rfl) (ha σ))
theorem exw_calm {W : WX} {ge : G D} (h : EX K (fun _ _ _ => True) (fun _ => true) te ge) : EXW K W te ge := fun F H σ ρ as o Q hs so eg hx hk =>
  h F H σ ρ as o Q hs so eg (fun _ _ _ _ _ _ _ _ _ _ => trivial) hk

/-! ### try: body, except NestError as e: x = kinds(e) -/
def kindS : Nat → Option (List Nat)
  | 21 => some (sc "NoDoor+")
  | 22 => some (sc "NoPlace+")
  | 23 => some (sc "NoRow+")
  | 24 => some (sc "NoText+")
  | 25 => some (sc "NoTongue+")
  | 26 => some (sc "NoWay+")
  | 27 => some (sc "Nothing+")
  | 28 => some (sc "TooMany+")
  | _ => none
def spK (K : Kx) : Addr → Value → Sp := fun a c vs H Q _ => vs = [.ref a] ∧ ∃ F n s, Same F H ∧ TabOk F H ∧ c = .ref (K.ca n) ∧ kindS n = some s ∧ ∀ H', Gr F H [] F H' [] → Q (.str ⟨s.toArray⟩) H'
def tsK (K : Kx) (i k : Nat) (a : Addr) (cls : Value) : Option Addr → TS
  | none => tAsg (tCallE (spK K a cls) (tCons (tVar i) tNil)) (gName k)
  | some _ => tNever
def hKinds (i k : Nat) (n : Nat) : G Fl := fun ρ => match kindS n with
  | some s => if i < ρ.length then some (.ok .nx ((ρ.set k (some (.dat (.str s)))).set i none)) else none
  | none => none
def gTry (h : Nat → G Fl) (g : G Fl) : G Fl := fun ρ => match g ρ with
  | some (.ex n ρ') => h n ρ'
  | r => r
theorem Gr.same (hs : Same F H) (h : Same H H') : Gr F H [] F H' [] := ⟨.refl _, hs.trans h, fun a o e _ _ => h a o e, fun _ z => .inl z, fun _ e _ _ => e, fun a ps e _ => ⟨ps, h a _ e⟩, fun t => ⟨t.1.ext h, t.2⟩⟩
theorem rn_tryK {i k : Nat} {nest : Addr} {tb : WX → TS} {Wout : WX} {g : G Fl} (hn : ∀ n s, kindS n = some s → PySem.W.exmOne K.K (.ref (K.ca n)) (.ref nest) = some true) (hi : kp i = false) (hk : kp k = false) (hik : i ≠ k) (hb : ∀ W, RW K W kp (tb W) g) :
    RN K E kp (fun D σ H => tb (wAs K.K (.ref nest) i (tsK K i k) Wout D) D σ H) (gTry (hKinds i k) g) := fun F H σ ρ as o D hs so e hx hp => by
  unfold gTry at e
  split at e
  · rename_i n ρ' e1
    unfold hKinds at e
    split at e
    · rename_i s e2
      split at e
      · rename_i hl
        have eo := (Option.some.inj e).symm
        refine hb _ F H σ ρ as (.ex n ρ') D hs so e1 (fun C ρ'' e' F' H' σ' as' k' g' s' => ?_) FP.ex
        cases e'
        refine ⟨true, hn n s e2, fun _ a ha => ?_, fun z => nomatch z⟩
        have hl' : i < σ'.length := by rw [s'.len]; exact hl
        refine ⟨.ref a, by rw [List.getElem?_set_self hl'], rfl, F', n, s, g'.fh, s'.tab, rfl, e2, fun H2 g2 => ?_⟩
        obtain ⟨as1, q1, q2⟩ := (s'.grow g2).set k (Own.dat (DV.str' (K := K) (F := F') s)) (by simp)
        obtain ⟨as2, q3, q4⟩ := q1.drop i none
        have hσ : ((σ'.set i (some (.ref a))).set k (some (.str ⟨s.toArray⟩))).set i none = (σ'.set k (some (.str ⟨s.toArray⟩))).set i none := by
          rw [List.set_comm _ _ hik, List.set_set]
        show D.nx (((σ'.set i (some (.ref a))).set k (some (.str ⟨s.toArray⟩))).set i none) H2
        rw [hσ]
        refine hp.nx _ eo F' H2 _ as2 ((k'.trans (.set hk)).trans (.set hi)) ((g'.trans (g2.weak as')).less fun b z => ?_) q3
        exact (q2 b (q4 b z)).elim id (by simp)
      · cases e
    · cases e
  · rename_i r hne
    cases ho : g ρ with
    | none => rw [ho] at e; cases e
    | some r' =>
      rw [ho] at e
      cases e
      cases o with
      | ex n ρ' => exact absurd ho (hne n ρ')
      | ok f ρ' => exact hb _ F H σ ρ as (.ok f ρ') D hs so ho (fun C ρ'' e' => by cases e') hp
theorem PS_nox {X : Cx} {st : Stmt} {t : TS} (h : PS X.nox st t) : PS X st t := ⟨fun pins s σ H D I hw =>
  wpAny_mono (h.run pins s σ H D (I.wish _) hw) (fun _ _ q => q.unwish) fun _ _ z => False.elim z⟩
theorem takesN0 {X : Cx} : L2N.Takes X (fun _ _ _ _ => False) := fun _ _ x => by
  obtain ⟨_, _, _, _, _, _, _, _, _, _, _, _, _, _, _, _, z⟩ := x
  exact z.elim
end
/-- the def that tells an exception's classes -/
structure DefE (P : Program) (w : World) (K : Kx) (mg : Str → Option Value) (base : Heap) (x : Str) (k : Nat) : Prop where
  ex : ∃ f fd, FnE P w K.K mg base k f fd ["e"] (spK K) ∧ mg x = some (.ref f) ∧ PySem.W.keepIn K.K (.ref f) = true ∧ Binds K.K fd ["e"] []
theorem roomE {j k : Nat} {A : Around} {v : Option Value} (h : Room k A) (hk : j ≤ k) : L2H.RoomH j (A.mark v) := L2H.RoomH.mono (k := k) ⟨h.dp, h.un⟩ hk
theorem pss_kinds {X : Cx} {K : Kx} (hK : X.K = K.K) {x y n : Str} {j k i kk : Nat} {pos p1 p2 p3 p4 : Pos} (D : DefE X.prog X.w K X.mg X.base x j) (hr : Room k X.A) (hj : j ≤ k) (hg : Gl X x) (hN : X.N.Nodup) (hi : X.N[i]? = some n) (hkk : X.N[kk]? = some y) (hvn : Vis X.env.scope n) (hly : Loc X.env.scope y)
    (hfy : X.fn y = true ∨ X.env.scope.names.lookup y = some .local) (hnn : (n == ("__debug__" : Str)) = false) (hnc : (n == ("__classdict__" : Str)) = false) (hdb : (x == ("__debug__" : Str)) = false)
    (ps : ∀ {a : Addr} {oe : Obj} {pn : List (Addr × Obj)} {te : TE}, PE (X.suite a ((a, oe) :: pn)) (.Call (.Name x p1) [.Name n p2] [] p3) te → PS (X.suite a ((a, oe) :: pn)) (.Assign [.Name y p4] (.Call (.Name x p1) [.Name n p2] [] p3) pos) (tAsg te (gName kk)))
    (a : Addr) (oe : Obj) (cls : Value) (d : Option Addr) (pn : List (Addr × Obj)) (hz : L2N.Zn cls d oe) (hd : ∃ vs, oe.data = .fields vs) : PSs (X.suite a ((a, oe) :: pn)) [.Assign [.Name y p4] (.Call (.Name x p1) [.Name n p2] [] p3) pos] (tsK K i kk a cls d) := by
  cases d with
  | some _ => exact pss_never
  | none =>
    obtain ⟨f, fd, F, hm, hkp, hb⟩ := D.ex
    rw [← hK] at F hkp hb
    exact pss_one (ps (pe_callE F (roomE hr hj) hz hd hg hm hkp hb (pa_cons (pe_var hi hvn hnn hnc) pa_nil) hdb))
end Y
/-! Y: the facts of the program's classes of exceptions; the try statement as one rule; the def that tells an exception's classes. -/
namespace Y
open PySem PySem.Spec PyProof.Rows L2
variable [TabC]
def exN : List (Str × Nat) := [("NoDoor", 21), ("NoPlace", 22), ("NoRow", 23), ("NoText", 24), ("NoTongue", 25), ("NoWay", 26), ("Nothing", 27), ("TooMany", 28)]
structure ExcA (K : Kx) (mg : Str → Option Value) : Prop where
  nest : mg "NestError" = some (.ref (K.ca 20))
  f : ∀ x n, (x, n) ∈ exN → ExcF K mg (K.ca 20) x n
  c : ∀ x n, (x, n) ∈ exN → ExcC K.K (K.ca n)
  k : ∀ x n y m, (x, n) ∈ exN → (y, m) ∈ exN → PySem.W.kitOne K.K (.ref (K.ca n)) (.ref (K.ca m)) = some (decide (m = n))
  v : ∀ x n, (x, n) ∈ exN → PySem.W.kitOne K.K (.ref (K.ca n)) (.type "ValueError") = some true
theorem kindS_in {n : Nat} {s : List Nat} (h : kindS n = some s) : ∃ x, (x, n) ∈ exN := by
  unfold kindS at h
  split at h
  case h_9 => cases h
  all_goals first | exact ⟨"NoDoor", by decide⟩ | exact ⟨"NoPlace", by decide⟩ | exact ⟨"NoRow", by decide⟩ | exact ⟨"NoText", by decide⟩ | exact ⟨"NoTongue", by decide⟩ | exact ⟨"NoWay", by decide⟩ | exact ⟨"Nothing", by decide⟩ | exact ⟨"TooMany", by decide⟩
theorem ExcA.hn {K : Kx} {mg : Str → Option Value} (a : ExcA K mg) : ∀ n s, kindS n = some s → PySem.W.exmOne K.K (.ref (K.ca n)) (.ref (K.ca 20)) = some true := fun n s h => by
  obtain ⟨x, hx⟩ := kindS_in h
  exact (a.f x n hx).ne
def excB (K : PySem.W.Frag) (x : Str) (n : Nat) : Bool :=
  He.eqO (PySem.W.nsIn K mainGlobals x) (some (some (.ref (He.ga K x)))) && PySem.W.excIn K (He.ga K x) bmVE "ValueError.__new__" && PySem.W.keepIn K (.ref (He.ga K x)) && decide (PySem.W.subIn K (.ref (He.ga K x)) (.type "BaseException") = some true) &&
  decide (PySem.W.typeIn K (.ref (He.ga K x)) = some (.type "type")) && decide (PySem.W.exmOne K (.ref (He.ga K x)) (.ref (He.ga K "NestError")) = some true) && decide (PySem.W.exmOne K (.ref (He.ga K x)) (.ref (He.ga K x)) = some true) &&
  (He.eqO (PySem.W.findIn K (.ref (He.ga K x)) "__getattribute__") (some (some (.builtin "BaseException.__getattribute__"))) && He.eqO (PySem.W.findIn K (.ref (He.ga K x)) "__getattr__") (some none) && PySem.W.hasDictIn K (He.ga K x) &&
    He.eqO (PySem.W.findIn K (.ref (He.ga K x)) "__class__") (some (some (.builtin "object.__class__"))) && He.eqO (PySem.W.specialIn K (.builtin "object.__class__") "__get__") (some (some (.builtin "getset_descriptor.__get__"))) &&
    decide (PySem.W.takesIn K (.builtin "object.__class__") = some true) && decide (PySem.W.mroIn K (He.ga K x) (.type "object") = some true)) &&
  (exN.all fun y => decide (PySem.W.kitOne K (.ref (He.ga K x)) (.ref (He.ga K y.1)) = some (decide (y.2 = n)))) && decide (PySem.W.kitOne K (.ref (He.ga K x)) (.type "ValueError") = some true)
def excAll (K : PySem.W.Frag) : Bool := He.eqO (PySem.W.nsIn K mainGlobals "NestError") (some (some (.ref (He.ga K "NestError")))) && exN.all fun y => excB K y.1 y.2
theorem excA_ok {K : Kx} {h : Heap} {mg : Str → Option Value} (X : K.K.In h) (G : h.Ns mainGlobals mg) (e20 : K.ca 20 = He.ga K.K "NestError") (e : ∀ y ∈ exN, K.ca y.2 = He.ga K.K y.1) (c : excAll K.K = true) : ExcA K mg := by
  obtain ⟨c1, c2⟩ := Bool.and_eq_true_iff.mp c
  rw [List.all_eq_true] at c2
  have key : ∀ x n, (x, n) ∈ exN → excB K.K x n = true := fun x n hx => c2 (x, n) hx
  refine ⟨by rw [e20]; exact PySem.W.mg_of X G (He.eqO_ok c1), fun x n hx => ?_, fun x n hx => ?_, fun x n y m hx hy => ?_, fun x n hx => ?_⟩
  all_goals
    have q := key x n hx
    have en : K.ca n = He.ga K.K x := e (x, n) hx
    simp only [excB, Bool.and_eq_true, decide_eq_true_eq, List.all_eq_true] at q
    obtain ⟨⟨⟨⟨⟨⟨⟨⟨⟨q1, q2⟩, q3⟩, q4⟩, q5⟩, q6⟩, q9⟩, ⟨⟨⟨⟨⟨⟨p1, p2⟩, p3⟩, p4⟩, p5⟩, p6⟩, p7⟩⟩, q7⟩, q8⟩ := q
  · exact ⟨by rw [en]; exact PySem.W.mg_of X G (He.eqO_ok q1), by rw [en]; exact q2, by rw [en]; exact q3, by rw [en]; exact q4, by rw [en]; exact q5, by rw [en, e20]; exact q6, by rw [en]; exact q9⟩
  · rw [en]
    exact ⟨He.eqO_ok p1, He.eqO_ok p2, q4, p3, He.eqO_ok p4, He.eqO_ok p5, p6, p7⟩
  · have em : K.ca m = He.ga K.K y := e (y, m) hy
    rw [en, em]
    exact q7 (y, m) hy
  · rw [en]
    exact q8
section
variable {X : Cx} {CX : CXT} {k j : Nat} {C : Addr} {x m : Str} {ps : List Str} {sp : Sp} {E : L2.St → XK} {p pos apos : Pos} {e o : Expr} {es : List Expr} {ta : TE} {t : TA}
theorem pe_cW (c : DefC X.prog X.w X.K X.mg X.base CX x k ps sp) (hr : Room j X.A) (hk : k ≤ j) (hg : Gl X x) (hx : ∀ σ, PassesAt CX X σ (E σ)) (ha : PA X (e :: es) t)
    (hdb : (x == ("__debug__" : Str)) = false := by decide) (he : starEach (e :: es) X.env = (false, eval e X.env) :: starEach es X.env := by rfl) (hpl : (backTo pos (starEach es X.env)).any (·.1) = false := by rfl) :
    PE X (.Call (.Name x p) (e :: es) [] pos) (tCallS sp E t) := by
  obtain ⟨f, fd, F, hm, kp, b⟩ := c.ex
  exact pe_callS F (hr.mono hk) hg hm kp b hx ha hdb he hpl
theorem pe_mtW {pl : Sem Bool} (c : DefM X.prog X.w X.K X.mg X.base CX C m k ps sp) (hr : Room j X.A) (hk : k ≤ j) (hx : ∀ σ, PassesAt CX X σ (E σ)) (he : PE X o ta) (ha : PA X (e :: es) t)
    (hst : starEach (e :: es) X.env = (false, eval e X.env) :: starEach es X.env := by rfl) (hpl : (backTo pos (starEach es X.env)).any (·.1) = false := by rfl)
    (ht : eval (.Call (.Attribute o m apos) (e :: es) [] pos) X.env = (do
      let ov ← eval o X.env
      standAt apos.atName
      let (f, first) ← holding [ov] (getMethod ov m pl)
      callWith pos f first (backTo pos (starEach (e :: es) X.env)) (backToKw pos (keywordEach [] X.env))) := by rfl) :
    PE X (.Call (.Attribute o m apos) (e :: es) [] pos) (tMethW C m sp E ta t) := by
  obtain ⟨f, fd, F, hc, hm, b⟩ := c.ex
  exact pe_methW (pl := pl) he hc hm F (hr.mono hk) b hx ha hst hpl ht
theorem pe_mtW0 {pl : Sem Bool} (c : DefM X.prog X.w X.K X.mg X.base CX C m k ps sp) (hr : Room j X.A) (hk : k ≤ j) (hx : ∀ σ, PassesAt CX X σ (E σ)) (he : PE X o ta)
    (ht : eval (.Call (.Attribute o m apos) [] [] pos) X.env = (do
      let ov ← eval o X.env
      standAt apos.atName
      let (f, first) ← holding [ov] (getMethod ov m pl)
      callWith pos f first (backTo pos (starEach [] X.env)) (backToKw pos (keywordEach [] X.env))) := by rfl) :
    PE X (.Call (.Attribute o m apos) [] [] pos) (tMethW C m sp E ta tNil) := by
  obtain ⟨f, fd, F, hc, hm, b⟩ := c.ex
  exact pe_methW0 (pl := pl) he hc hm F (hr.mono hk) b hx ht
/-- try: body, except NestError as e: y = x(e) -/
def tTryK (K : Kx) (i kk : Nat) (tb : WX → TS) : TS := fun D σ H => tb (wAs K.K (.ref (K.ca 20)) i (tsK K i kk) (fun _ _ _ _ => False) D) D σ H
theorem ps_tryK {X : Cx} {K : Kx} (hK : X.K = K.K) {x y n : Str} {j k i kk : Nat} {body : List Stmt} {tb : WX → TS} {pos p0 p1 p2 p3 p4 p5 p6 : Pos} (xa : ExcA K X.mg) (D : DefE X.prog X.w K X.mg X.base x j) (hr : Room k X.A) (hj : j ≤ k)
    (hs : X.stack = X.env :: X.outer) (hf : X.env.frame = some X.env.locals) (hg : Gl X x) (hgn : Gl X "NestError") (hN : X.N.Nodup) (hi : X.N[i]? = some n) (hln : X.env.kindOf n = some .local) (hkk : X.N[kk]? = some y) (hvn : Vis X.env.scope n)
    (hnn : (n == ("__debug__" : Str)) = false) (hnc : (n == ("__classdict__" : Str)) = false) (hdb : (x == ("__debug__" : Str)) = false)
    (hb : ∀ (W : WX) (pn : List (Addr × Obj)) (xe : Value → Shared → Prop), L2N.Takes (X.tr pn xe) W → PSs (X.tr pn xe) body (tb W))
    (ps : ∀ {a : Addr} {oe : Obj} {pn : List (Addr × Obj)} {te : TE}, PE (X.suite a ((a, oe) :: pn)) (.Call (.Name x p1) [.Name n p2] [] p3) te → PS (X.suite a ((a, oe) :: pn)) (.Assign [.Name y p4] (.Call (.Name x p1) [.Name n p2] [] p3) p0) (tAsg te (gName kk))) (hly : Loc X.env.scope y) (hfy : X.fn y = true ∨ X.env.scope.names.lookup y = some .local) :
    PS X (.Try body [.ExceptHandler (some (.Name "NestError" p5)) (some n) [.Assign [.Name y p4] (.Call (.Name x p1) [.Name n p2] [] p3) p0] p6] [] [] pos) (tTryK K i kk tb) := by
  have h := L2N.ps_try_as (X := X) (x := "NestError") (n := n) (c := .ref (K.ca 20)) (i := i) (body := body) (suite := []) (b₀ := .Assign [.Name y p4] (.Call (.Name x p1) [.Name n p2] [] p3) p0) (np := p5) (pos := pos) (pos' := p6) (tb := tb) (ts := tsK K i kk) (Wout := fun _ _ _ _ => False)
    hs hf hN hi hln ⟨hgn, by decide, .inl xa.nest⟩ takesN0 (fun W pn xe tk _ => hb W pn xe tk) (fun a oe cls d pn hz hd => pss_kinds hK D hr hj hg hN hi hkk hvn hly hfy hnn hnc hdb ps a oe cls d pn hz hd)
  rw [hK] at h
  exact h
end
section
variable {K : Kx} {E : XK} {kp : Nat → Bool} {F F' F1 F2 H H' H1 H2 : Hp} {as as' as1 as2 bs : List Addr} {σ σ' σ1 : L2.St} {ρ : Env}
theorem rn_tryX {mg : Str → Option Value} {i k : Nat} {tb : WX → TS} {g : G Fl} (xa : ExcA K mg) (hi : kp i = false) (hk : kp k = false) (hik : i ≠ k) (hb : ∀ W, RW K W kp (tb W) g) : RN K E kp (tTryK K i k tb) (gTry (hKinds i k) g) :=
  rn_tryK xa.hn hi hk hik hb
/-! ### the def that tells the classes -/
def tIs (K : Kx) (a D : Addr) (c : V) : TE := tCB (rIsE K.K D a) (tCons (tVar 0) (tCons (tC c) tNil))
def tKinds (K : Kx) (a D : Addr) (u : TS) : TS :=
  tSeq (tAsg (tLst (tCons (tIs K a D (.ref (K.ca 21))) (tCons (tIs K a D (.ref (K.ca 22))) (tCons (tIs K a D (.ref (K.ca 23))) (tCons (tIs K a D (.ref (K.ca 24))) tNil))))) (gName 1))
  (tSeq (tAsg (tOp (rAddA K.K) (tVar 1) (tLst (tCons (tIs K a D (.ref (K.ca 25))) (tCons (tIs K a D (.ref (K.ca 26))) (tCons (tIs K a D (.ref (K.ca 27))) (tCons (tIs K a D (.ref (K.ca 28))) tNil)))))) (gName 1))
  (tSeq (tDrop (tBM K.K "list" rAppend (tVar 1) (tCons (tIs K a D (.ty "ValueError")) tNil))) u))
def g_kindsT : G Fl :=
 gThen (sSet 2 (gView (nLst (pCons (cM (.dat (.str (sc "NoDoor")))) (pCons (cM (.dat (.str (sc "NoPlace")))) (pCons (cM (.dat (.str (sc "NoRow")))) (pCons (cM (.dat (.str (sc "NoText")))) (pCons (cM (.dat (.str (sc "NoTongue")))) (pCons (cM (.dat (.str (sc "NoWay")))) (pCons (cM (.dat (.str (sc "Nothing")))) (pCons (cM (.dat (.str (sc "TooMany")))) (pCons (cM (.dat (.str (sc "+")))) pNil))))))))))))
 (sRet (gOf (nM1 fJoin (cM (.dat (.str (sc "")))) (gCompP (pRng1 (pCons (cM (.dat (.int 9))) pNil)) (gTo 3) (tB' (n2 fIdx (gV 1) (gV 3))) (n2 fIdx (gV 2) (gV 3)) [3]))))
def kindB (n : Nat) : List Bool := [21, 22, 23, 24, 25, 26, 27, 28].map (fun m => decide (m = n)) ++ [true]
def kindOut : Option (Rs Fl) → Option (List Nat)
  | some (.ok (.rt (.dat (.str s))) _) => some s
  | _ => none
theorem kindT_ok {n : Nat} {s : List Nat} (h : kindS n = some s) : kindOut (g_kindsT [none, some (.lst ((kindB n).map fun b => .dat (.bl b))), none, none]) = some s := by
  unfold kindS at h
  split at h
  case h_9 => cases h
  all_goals
    cases h
    decide +kernel
theorem kinds_run {mg : Str → Option Value} (xa : ExcA K mg) {n : Nat} {s : List Nat} (hk : kindS n = some s) (hs : Same F H) (htb : TabOk F H) {a : Addr} {u : TS} (hu : RN K E (fun _ => false) u g_kindsT) {Q : VK} (hQ : ∀ H', Gr F H [] F H' [] → Q (.str ⟨s.toArray⟩) H') :
    tKinds K a (K.ca n) u { nx := fun _ H' => Q .non H', rt := Q } [some (.ref a), none, none, none] H := by
  obtain ⟨x, hx⟩ := kindS_in hk
  have kk : ∀ m, (∃ y, (y, m) ∈ exN) → PySem.W.kitOne K.K (.ref (K.ca n)) (.ref (K.ca m)) = some (decide (m = n)) := fun m ⟨y, hy⟩ => xa.k x n y m hx hy
  refine isE_ok rfl (fun w z => z) (kk 21 ⟨"NoDoor", by decide⟩) (isE_ok rfl (fun w z => z) (kk 22 ⟨"NoPlace", by decide⟩) (isE_ok rfl (fun w z => z) (kk 23 ⟨"NoRow", by decide⟩) (isE_ok rfl (fun w z => z) (kk 24 ⟨"NoText", by decide⟩) ⟨by rw [sizeLine_eq]; simp, fun l1 h1 => ?_⟩)))
  refine ⟨.ref l1, rfl, isE_ok rfl (fun w z => z) (kk 25 ⟨"NoTongue", by decide⟩) (isE_ok rfl (fun w z => z) (kk 26 ⟨"NoWay", by decide⟩) (isE_ok rfl (fun w z => z) (kk 27 ⟨"Nothing", by decide⟩) (isE_ok rfl (fun w z => z) (kk 28 ⟨"TooMany", by decide⟩) ⟨by rw [sizeLine_eq]; simp, fun l2 h2 => ?_⟩)))⟩
  have n12 : l1 ≠ l2 := fun z => by
    rw [← z, upd_same] at h2
    cases h2
  refine .inr (.inr (.inr ⟨l1, l2, _, _, rfl, rfl, (upd_ne n12).trans upd_same, upd_same, by rw [sizeLine_eq]; simp, fun l3 h3 => ?_⟩))
  have n13 : l3 ≠ l1 := fun z => by
    rw [z, upd_ne n12, upd_same] at h3
    cases h3
  have n23 : l3 ≠ l2 := fun z => by
    rw [z, upd_same] at h3
    cases h3
  have h30 : H l3 = none := by
    rw [upd_ne n23, upd_ne n13] at h3
    exact h3
  have h20 : H l2 = none := by
    rw [upd_ne (Ne.symm n12)] at h2
    exact h2
  refine ⟨.ref l3, rfl, .inl ⟨rfl, _, SqL.of upd_same⟩, isE_ok rfl (fun w z => z) (xa.v x n hx) ⟨l3, _, _, rfl, rfl, upd_same, by rw [sizeLine_eq]; simp, ?_⟩⟩
  generalize hH4 : upd _ l3 _ = H4
  have s4 : Same H H4 := fun b o e => by
    have b1 : b ≠ l1 := fun z => by rw [z, h1] at e; cases e
    have b2 : b ≠ l2 := fun z => by rw [z, h20] at e; cases e
    have b3 : b ≠ l3 := fun z => by rw [z, h30] at e; cases e
    rw [← hH4, upd_ne b3, upd_ne b3, upd_ne b2, upd_ne b1]
    exact e
  have hl4 : H4 l3 = some (.lst ((kindB n).map V.bl)) := by
    rw [← hH4, upd_same]
    rfl
  have ow : ∀ bs : List Bool, Owns K F H4 (bs.map V.bl) (bs.map fun b => M.dat (.bl b)) [] := fun bs => by
    induction bs with
    | nil => exact .nil
    | cons b bs ih =>
      have := Owns.cons (Own.dat (DV.bl (K := K) (F := F) b)) ih (H := H4) (by simp)
      simpa using this
  have g4 : Gr F H [] F H4 [] := .same hs s4
  have so : SO K F H4 [some (.ref a), some (.ref l3), none, none] [none, some (.lst ((kindB n).map fun b => .dat (.bl b))), none, none] [l3] :=
    .no (.ow (as := [l3]) (bs := []) (.lst hl4 (hs.free h30) (ow _) (by simp)) (.no (.no (.nil (g4.tb htb)))) (by simp))
  have ko := kindT_ok hk
  cases eg : g_kindsT [none, some (.lst ((kindB n).map fun b => .dat (.bl b))), none, none] with
  | none => rw [eg] at ko; cases ko
  | some o =>
    rw [eg] at ko
    show u { nx := fun _ H' => Q .non H', rt := Q } [some (.ref a), some (.ref l3), none, none] H4
    have hQ' : ∀ F' H' as' rs v, Gr F H4 [l3] F' H' (as' ++ rs) → Own K F' H' v (.dat (.str s)) rs → Q v H' := fun F' H' as' rs v g ov => by
      have e := ov.dat_inv.1.str_inv'
      rw [e]
      have gc : Gr F H [] F' H' [] := g4.comp g (fun b hb _ z => hb (by rw [List.mem_singleton.mp z]; exact h30)) (fun _ z => by simp at z) fun b eb hb _ => g.fz b eb (g4.there hb (by simp)) fun z => hb (by rw [List.mem_singleton.mp z]; exact h30)
      exact hQ H' (gc.re (.refl _) (g.ff.trans g.fh) (fun _ z => z) (fun _ z => .inl z) (fun _ eb _ _ => eb) fun t => ⟨t.1, htb.2⟩)
    cases o with
    | ex c ρ' => cases ko
    | ok fl ρ' =>
      cases fl with
      | rt m =>
        cases m with
        | dat d =>
          cases d with
          | str s' =>
            cases ko
            refine hu F H4 _ _ [l3] _ _ g4.fh so eg (fun C ρ' e => by cases e) ⟨fun _ e => (by cases e), fun _ e => (by cases e), fun _ e => (by cases e), fun m ρ' e F' H' σ' as' rs v k' g' s' o' n' => ?_⟩
            cases e
            exact hQ' F' H' as' rs v g' o'
          | _ => cases ko
        | _ => cases ko
      | _ => cases ko
end
end Y
/-! Y: comprehensions over a frozen dict's keys. -/
namespace Y
open PySem PySem.Spec PyProof.Rows L2
variable [TabC]
/-- F' is F but at d, where the same dict is read -/
structure Sw (F F' : Hp) (d : Addr) (kvs : List (Key × V)) : Prop where
  off : ∀ b, b ≠ d → F' b = F b
  rd : Rd F d (.dK kvs)
  rd' : Rd F' d (.dK kvs)
section
variable {K : Kx} {F F' H H' : Hp} {d : Addr} {kvs : List (Key × V)}
theorem Sw.nn (s : Sw F F' d kvs) : F d ≠ none := fun e => by
  rcases s.rd with h | ⟨_, h⟩ <;> rw [e] at h <;> cases h
theorem Sw.ne {a : Addr} (s : Sw F F' d kvs) (h : F a = none) : a ≠ d := fun e => s.nn (e ▸ h)
theorem Sw.rdx {a : Addr} {u : HO} (s : Sw F F' d kvs) (h : Rd F a u) (hd : ∀ kvs', u ≠ .dK kvs') (hf : ∀ o u', u ≠ .frz o u') : Rd F' a u := by
  have n : a ≠ d := fun e => by
    subst e
    rcases s.rd with q | ⟨_, q⟩ <;> rcases h with z | ⟨_, z⟩ <;> rw [q] at z <;> cases z
    · exact hd _ rfl
    · exact hf _ _ rfl
    · exact hd _ rfl
  rcases h with z | ⟨o, z⟩
  · exact .inl (by rw [s.off a n]; exact z)
  · exact .inr ⟨o, by rw [s.off a n]; exact z⟩
theorem Sw.rdk {a : Addr} {kvs' : List (Key × V)} (s : Sw F F' d kvs) (h : Rd F a (.dK kvs')) : Rd F' a (.dK kvs') := by
  by_cases n : a = d
  · subst n
    have e : kvs' = kvs := by
      rcases s.rd with q | ⟨_, q⟩ <;> rcases h with z | ⟨_, z⟩ <;> rw [q] at z <;> cases z <;> rfl
    rw [e]
    exact s.rd'
  · rcases h with z | ⟨o, z⟩
    · exact .inl (by rw [s.off a n]; exact z)
    · exact .inr ⟨o, by rw [s.off a n]; exact z⟩
theorem Sw.lst {a : Addr} {xs : List V} (s : Sw F F' d kvs) (h : F a = some (.lst xs)) : F' a = some (.lst xs) := by
  have n : a ≠ d := fun e => by
    subst e
    rcases s.rd with q | ⟨_, q⟩ <;> rw [q] at h <;> cases h
  rw [s.off a n]
  exact h
theorem Sw.sqt {a : Addr} {xs : List V} (s : Sw F F' d kvs) (h : SqT K.K F a xs) : SqT K.K F' a xs := h.imp (fun q => s.rdx q (fun _ z => nomatch z) (fun _ _ z => nomatch z)) id
theorem Sw.sql {a : Addr} {xs : List V} (s : Sw F F' d kvs) (h : SqL K.K F a xs) : SqL K.K F' a xs := h.imp (fun q => s.rdx q (fun _ z => nomatch z) (fun _ _ z => nomatch z)) id
mutual
theorem DV.sw (s : Sw F F' d kvs) : ∀ {v : V} {x : D}, DV K F v x → DV K F' v x
  | _, _, .non => .non
  | _, _, .bl b => .bl b
  | _, _, .int i => .int i
  | _, _, .str x => .str x
  | _, _, .tup h hs => .tup (s.sqt h) (DVs.sw s hs)
  | _, _, .lst h hs => .lst (s.lst h) (DVs.sw s hs)
  | _, _, .scr h => .scr (s.sql h)
  | _, _, .dic h hs => .dic (s.rdk h) (DVk.sw s hs)
theorem DVs.sw (s : Sw F F' d kvs) : ∀ {v : List V} {x : List D}, DVs K F v x → DVs K F' v x
  | _, _, .nil => .nil
  | _, _, .cons h hs => .cons (DV.sw s h) (DVs.sw s hs)
theorem DVk.sw (s : Sw F F' d kvs) : ∀ {v : List (Key × V)} {x : List (D × D)}, DVk K F v x → DVk K F' v x
  | _, _, .nil => .nil
  | _, _, .cons h hs => .cons (DV.sw s h) (DVk.sw s hs)
end
mutual
theorem Own.sw (s : Sw F F' d kvs) (q : ∀ b, b ≠ d → H' b = H b) : ∀ {v : V} {m : M} {as : List Addr}, Own K F H v m as → Own K F' H' v m as
  | _, _, _, .dat h => .dat (h.sw s)
  | _, _, _, .lst h f hs n => .lst (by rw [q _ (s.ne f)]; exact h) (by rw [s.off _ (s.ne f)]; exact f) (Owns.sw s q hs) n
  | _, _, _, .dic h f hs => .dic (by rw [q _ (s.ne f)]; exact h) (by rw [s.off _ (s.ne f)]; exact f) (hs.sw s)
  | _, _, _, .obj h hd f fd e hs n1 n2 n3 => .obj (by rw [q _ (s.ne f)]; exact h) (by rw [q _ (s.ne fd)]; exact hd) (by rw [s.off _ (s.ne f)]; exact f) (by rw [s.off _ (s.ne fd)]; exact fd) e (Owns.sw s q hs) n1 n2 n3
theorem Owns.sw (s : Sw F F' d kvs) (q : ∀ b, b ≠ d → H' b = H b) : ∀ {v : List V} {m : List M} {as : List Addr}, Owns K F H v m as → Owns K F' H' v m as
  | _, _, _, .nil => .nil
  | _, _, _, .cons h hs n => .cons (Own.sw s q h) (Owns.sw s q hs) n
end
theorem SO.sw (s : Sw F F' d kvs) (q : ∀ b, b ≠ d → H' b = H b) (tb : TabOk F H → TabOk F' H') : ∀ {σ : L2.St} {ρ : Env} {as : List Addr}, SO K F H σ ρ as → SO K F' H' σ ρ as
  | _, _, _, .nil t => .nil (tb t)
  | _, _, _, .no h => .no (SO.sw s q tb h)
  | _, _, _, .ow h hs n => .ow (h.sw s q) (SO.sw s q tb hs) n
theorem sw_lock {u : HO} (h : F d = some (.dK kvs)) (hu : u = .dK kvs ∨ ∃ o, u = .frz o (.dK kvs)) : Sw F (upd F d u) d kvs :=
  ⟨fun b n => upd_ne n, .inl h, by
    rcases hu with rfl | ⟨o, rfl⟩
    · exact .inl upd_same
    · exact .inr ⟨o, upd_same⟩⟩
theorem DVk.keysL : ∀ {kvs : List (Key × V)} {kds : List (D × D)}, DVk K F kvs kds → kds.map (·.1) = kvs.map fun p => keyD p.1
  | _, _, .nil => rfl
  | _, _, .cons _ hs => by
    simp only [List.map_cons, DVk.keysL hs]
theorem DV.keyL (k : Key) : DV K F (kV k) (keyD k) := by
  cases k with
  | inl i => exact .int i
  | inr x => exact .str x
/-- tables don't care about a dict's lock -/
theorem tabs_sw {H H' : Hp} {d : Addr} {u : HO} (h : H d = some u) (hu : plain u = true ∨ ∃ o u', u = .frz o u') (off : ∀ b, b ≠ d → H' b = H b) {P : Addr} {q : Str} (t : LamX.TabS H P q) : LamX.TabS H' P q := by
  obtain ⟨ps, h1, h2, h3⟩ := t
  have n1 : P ≠ d := fun z => by
    rw [z, h] at h1
    cases h1
    rcases hu with hu | ⟨_, _, hu⟩ <;> cases hu
  refine ⟨ps, by rw [off P n1]; exact h1, h2, fun pos cv hc => ?_⟩
  obtain ⟨c, e1, e2⟩ := h3 pos cv hc
  refine ⟨c, e1, ?_⟩
  have n2 : c ≠ d := fun z => by
    rw [z, h] at e2
    cases e2
    rcases hu with hu | ⟨_, _, hu⟩ <;> cases hu
  rw [off c n2]
  exact e2
/-- what is read there is a frozen dict, whatever its lock -/
def LD (K : Kx) (td : TE) (g : Env → Option M) : Prop := ∀ F H σ ρ as kds, Same F H → SO K F H σ ρ as → g ρ = some (.dat (.dic kds)) → ∃ d kvs, Rd F d (.dK kvs) ∧ DVk K F kvs kds ∧ ∀ H1 R, (∀ b o, H b = some o → b ≠ d → H1 b = some o) → R (.ref d) H1 → td σ H1 R
theorem ld_slot (i : Nat) : LD K (tVar i) (gV i) := fun F H σ ρ as kds hs so e => by
  obtain ⟨v, ms, h1, f⟩ := foc_slot so e
  obtain ⟨a, xs, rfl, h2, h3⟩ := f.own.dat_inv.1.dic_inv
  exact ⟨a, xs, h2, h3, fun H1 R _ r => ⟨_, h1, r⟩⟩
theorem ld_fld {C i : Nat} {f : Str} (c : Cls K.K (K.ca C)) (n : NoAttr K.K (K.ca C) f) : LD K (tFld K.K (tVar i) f) (gP (gFld C f (vS i))) := fun F H σ ρ as kds hs so e => by
  unfold gP gFld vS at e
  cases e1 : getP ρ (.slot i) with
  | none => simp only [e1] at e; cases e
  | some m =>
    simp only [e1] at e
    cases m with
    | obj C' fs =>
      simp only at e
      split at e
      · rename_i hC
        subst hC
        simp only [Option.bind_some, getP] at e
        have e1' := e1
        simp only [getP] at e1'
        rw [e1'] at e
        simp only [Option.bind_some, stepM] at e
        obtain ⟨v, ms, h1, fo⟩ := foc_slot so e1
        obtain ⟨a, dx, fvs, u, ms', r1, r2, r3, r4⟩ := foc_fld fo e1 e
        obtain ⟨d, xs, rfl, h2, h3⟩ := r4.own.dat_inv.1.dic_inv
        subst r1
        refine ⟨d, xs, h2, h3, fun H1 R q r => ⟨.ref a, h1, a, _, dx, fvs, .ref d, rfl, q a _ r2 fun z => ?_, c, n, r3, r⟩⟩
        rw [z] at r2
        rcases h2 with h2 | ⟨_, h2⟩ <;> rw [hs _ _ h2] at r2 <;> cases r2
      · cases e
    | _ => cases e
def gDK (g : Env → Option M) : Env → Option (List D) := fun ρ => match g ρ with
  | some (.dat (.dic kds)) => some (kds.map (·.1))
  | _ => none
def tDK (t : TE) : TE := fun σ H Q => tLockE t σ H Q ∨ t σ H Q
theorem pe_dk {X : Cx} {e : Expr} {t : TE} (h : PE X e t) : PE X e (tDK t) :=
  ⟨fun pins s σ H Q I q => q.elim ((pe_lock h).run pins s σ H Q I) (h.run pins s σ H Q I)⟩
theorem en_compDK {td : TE} {g : Env → Option M} {tg : TG} {st : D → G Unit} {tt : TT} {gt : Env → Option Bool} {te : TE} {ge : Env → Option M} {vs : List Nat} (hl : LD K td g) (ht : JT K (fun i => decide (i ∉ vs)) tg st) (hc : EPT K tt gt) (he : EP K te ge) :
    EN K (tDK (tLc (iKeys td) tg tt te vs)) (gCompP (gDK g) st gt ge vs) := fun F H σ ρ as m Q hs so e k => by
  have ex : ∃ kds, g ρ = some (.dat (.dic kds)) := by
    unfold gCompP gDK at e
    cases e1 : g ρ with
    | none => rw [e1] at e; cases e
    | some m1 =>
      rw [e1] at e
      cases m1 with
      | dat x =>
        cases x with
        | dic kds => exact ⟨kds, rfl⟩
        | _ => cases e
      | _ => cases e
  obtain ⟨kds, e1⟩ := ex
  obtain ⟨d, kvs, rd, dv, tdOK⟩ := hl F H σ ρ as kds hs so e1
  have e' : gCompP (fun _ => some (kds.map (·.1))) st gt ge vs ρ = some m := by
    rw [← e]
    unfold gCompP
    have e2 : gDK g ρ = some (kds.map (·.1)) := by unfold gDK; rw [e1]
    rw [e2]
  have jip : ∀ od : Obj, JIP K (fun _ H R => H d = some (.frz od (.dK kvs)) → R (Itk d od kvs) H) (fun _ => some (kds.map (·.1))) := fun od F' H' σ' ρ' as' ds R hs' so' e2 k' => by
    cases e2
    intro hd
    refine k' F' H' (Itk d od kvs) (.refl hs') fun i F1 H1 g1 => ?_
    have h1 : H1 d = some (.frz od (.dK kvs)) := g1.hh _ _ hd (by simp)
    rw [dv.keysL]
    refine ⟨fun x ex => ?_, fun hle => ⟨h1, by simpa using hle⟩⟩
    rw [List.getElem?_map] at ex
    cases ek : kvs[i]? with
    | none => rw [ek] at ex; cases ex
    | some p =>
      rw [ek] at ex
      cases ex
      refine ⟨⟨h1, (List.getElem?_eq_some_iff.mp ek).1⟩, fun v H2 y => ?_⟩
      obtain ⟨rfl, k, v', ek', rfl⟩ := y
      rw [ek] at ek'
      cases ek'
      exact ⟨F1, .refl g1.fh, .keyL k⟩
  rcases rd with rd | ⟨od, rd⟩
  · refine .inl ⟨d, .dK kvs, hs _ _ rd, trivial, fun od => ?_⟩
    have sw := sw_lock (u := .frz od (.dK kvs)) rd (.inr ⟨od, rfl⟩)
    have tk : TabOk F H → TabOk (upd F d (.frz od (.dK kvs))) (upd H d (.frz od (.dK kvs))) := fun t => ⟨fun p hp => tabs_sw (d := d) (hs _ _ rd) (.inl rfl) (fun b n => upd_ne n) (t.1 p hp), fun p hp => by rw [upd_ne fun z => (by have := t.2 p hp; rw [z, rd] at this; cases this)]; exact t.2 p hp⟩
    have so1 : SO K (upd F d (.frz od (.dK kvs))) (upd H d (.frz od (.dK kvs))) σ ρ as := so.sw sw (fun b n => upd_ne n) tk
    have hs1 : Same (upd F d (.frz od (.dK kvs))) (upd H d (.frz od (.dK kvs))) := fun b o eb => by
      by_cases n : b = d
      · subst n
        rw [upd_same] at eb ⊢
        exact eb
      · rw [upd_ne n] at eb ⊢
        exact hs _ _ eb
    have hP := en_comp (jip od) ht hc he _ _ σ ρ as m (fun v H' => H' d = some (.frz od (.dK kvs)) ∧ Q v (upd H' d (.dK kvs))) hs1 so1 e' (fun F2 H2 v rs g2 ov fr => ?_) upd_same
    · exact tdOK _ _ (fun b o eb n => by rw [upd_ne n]; exact eb) ⟨d, od, rfl, .inl ⟨kvs, upd_same, hP⟩⟩
    have hd2 : H2 d = some (.frz od (.dK kvs)) := g2.hh _ _ upd_same (by simp)
    have fd2 : F2 d = some (.frz od (.dK kvs)) := g2.ff _ _ upd_same
    refine ⟨hd2, k (upd F2 d (.dK kvs)) (upd H2 d (.dK kvs)) v rs ⟨fun b o eb => ?_, fun b o eb => ?_, fun b o eb _ t => ?_, fun _ z => (by simp at z), fun b eb nb _ => ?_, fun b ps eb _ => ?_, fun t => ?_⟩ (ov.sw (d := d) (kvs := kvs) ⟨fun b n => upd_ne n, .inr ⟨od, fd2⟩, .inl upd_same⟩ fun b n => upd_ne n) fun z hz => ?_⟩
    · by_cases n : b = d
      · subst n
        rw [rd] at eb
        cases eb
        exact upd_same
      · rw [upd_ne n]
        exact g2.ff _ _ (by rw [upd_ne n]; exact eb)
    · by_cases n : b = d
      · subst n
        rw [upd_same] at eb ⊢
        exact eb
      · rw [upd_ne n] at eb ⊢
        exact g2.fh _ _ eb
    · by_cases n : b = d
      · subst n
        rw [hs _ _ rd] at eb
        cases eb
        exact upd_same
      · rw [upd_ne n]
        exact g2.hx _ _ (by rw [upd_ne n]; exact eb) (by simp) t
    · have n : b ≠ d := fun z => by rw [z, rd] at eb; cases eb
      rw [upd_ne n]
      exact g2.fz _ (by rw [upd_ne n]; exact eb) (by rw [upd_ne n]; exact nb) (by simp)
    · have n : b ≠ d := fun z => by rw [z, hs _ _ rd] at eb; cases eb
      rw [upd_ne n]
      exact g2.th _ _ (by rw [upd_ne n]; exact eb) (by simp)
    · have t2 := g2.tb (tk t)
      exact ⟨fun p hp => tabs_sw (d := d) hd2 (.inr ⟨_, _, rfl⟩) (fun b n => upd_ne n) (t2.1 p hp), fun p hp => by rw [upd_ne fun z => (by have := t2.2 p hp; rw [z, fd2] at this; cases this)]; exact t2.2 p hp⟩
    · have q := fr z hz
      have n : z ≠ d := fun y => by rw [y, upd_same] at q; cases q
      rw [upd_ne n] at q
      exact q
  · refine .inr ?_
    have hP := en_comp (jip od) ht hc he F H σ ρ as m Q hs so e' k (hs _ _ rd)
    exact tdOK _ _ (fun b o eb n => eb) ⟨d, od, rfl, .inl ⟨kvs, hs _ _ rd, hP⟩⟩
end
end Y
/-! Y: pairs sorted by their second part (sorted(.., key=lambda pair: pair[1])). -/
namespace Y
open PySem PySem.Spec PyProof.Rows L2
variable [TabC]
/-- all stays but the tables, that tell no less -/
structure XtN (H H' : Hp) : Prop where
  hx : ∀ a o, H a = some o → (∀ p ∈ TabC.T, p.1 ≠ a) → H' a = some o
  th : ∀ a ps, H a = some (.tbl ps) → ∃ qs, H' a = some (.tbl qs)
  tb : LamX.Tabs TabC.T H → LamX.Tabs TabC.T H'
theorem XtN.refl (H : Hp) : XtN H H := ⟨fun _ _ e _ => e, fun _ ps e => ⟨ps, e⟩, id⟩
section
variable {X : Cx} {pins : List (Addr × Obj)} {σ : L2.St} {H : Hp} {s : Shared}
theorem lam_make3 {c P : Addr} {q : Str} {params : Arguments} {body : PySem.Expr} {scope : Scope} {pos : Pos} {E : Value → Shared → Prop} {Q : Value → Shared → Prop} (I : Inv X pins σ H s) (TB : LamX.TabB X.base X.mg c P) (hcode : X.env.code = .ref c) (hq : X.env.qual ++ "<lambda>" = q)
    (hm : (P, q) ∈ TabC.T) (hu : ∀ p ∈ TabC.T, p.1 = P → p.2 = q) (hT : LamX.Tabs TabC.T H) (hdef : defaultsOf params X.env = ([], [])) (hfree : ∀ y ∈ scope.names, y.2 = .free → ∃ c, X.env.cells.lookup y.1 = some c)
    (h : ∀ (f c' : Addr) (pm ctv : Value) (H1 : Hp) (s' : Shared), Inv X pins σ H1 s' → XtN H H1 →
      s'.heap.get? f = some (PySem.W.kla_obj "<lambda>" q params body scope (cloFrom X.env.cells scope.names []) pm c' ctv) → H1 c' = some (LamX.CodeO c' q) → Q (.ref f) s') :
    wpAny (model X.prog X.w) X.A (eval (.Lambda params body scope pos) X.env) Q E s := by
  subst hq
  obtain ⟨ps, hP, ht, ha⟩ := hT _ hm
  refine PySem.W.kla_eval hdef ?_
  have bP : s.heap.BuiltinsAt X.mg P := TB.bm.keeps I.bk
  have hP' : s.heap.get? P = some { cls := .none, data := .fields ps } := I.hok P _ hP
  cases hc : codeAmong pos ps.toList with
  | none =>
    refine PySem.W.kla_makeFunction (mg := X.mg) (c := c) (P := P) (ps := ps) (closure_ok hfree) I.ok.glob (I.mod.glob.keeps I.bk) hcode (TB.code.keeps I.bk) hP' ht hc TB.gP bP fun c' ctv h' tk hx hge hlt hrec htb => ?_
    obtain ⟨c2, oc, vs, t, e2, hoc, hd, hv⟩ := hrec
    cases e2
    have nC : H c' = none := I.hok.fresh hge
    have I1 := LamX.inv_table (t' := tk) (more := #[rawInt pos.line, rawInt pos.col, .ref c']) (h' := h'.push (PySem.W.kla_obj "<lambda>" (X.env.qual ++ "<lambda>") params body scope (cloFrom X.env.cells scope.names []) ((X.mg "__name__").getD .none) c' ctv)) I hP
      (fun b o hb e => Heap.get?_push_of_some _ (hx b o hb e)) (Heap.get?_push_of_some _ htb) hge ⟨oc, vs, t, Heap.get?_push_of_some _ hoc, hd, hv⟩
    have hP1 : ∀ b o, H b = some o → (∀ p ∈ TabC.T, p.1 ≠ b) → (upd (upd H P (.tbl (ps ++ #[rawInt pos.line, rawInt pos.col, .ref c']))) c' (LamX.CodeO c' (X.env.qual ++ "<lambda>"))) b = some o := fun b o e n => by
      rw [upd_ne (ne_of_none e nC), upd_ne (fun z => n _ hm z.symm)]
      exact e
    have hE : ∀ b o, H b = some o → (∀ qs, o ≠ .tbl qs) → (upd (upd H P (.tbl (ps ++ #[rawInt pos.line, rawInt pos.col, .ref c']))) c' (LamX.CodeO c' (X.env.qual ++ "<lambda>"))) b = some o := fun b o e n => by
      rw [upd_ne (ne_of_none e nC), upd_ne (fun z => n ps (Option.some.inj (e.symm.trans (by rw [z]; exact hP))))]
      exact e
    have eL : (ps ++ #[rawInt pos.line, rawInt pos.col, .ref c']).toList = ps.toList ++ [rawInt pos.line, rawInt pos.col, .ref c'] := by simp
    refine h h'.objs.size c' ((X.mg "__name__").getD .none) ctv _ _ I1 ⟨hP1, fun b qs e => ?_, fun hT' p hp => ?_⟩ (Heap.get?_push_size _ rfl) upd_same
    · by_cases hb : b = P
      · subst hb
        exact ⟨_, by rw [upd_ne (ne_of_none hP nC), upd_same]⟩
      · exact ⟨qs, by rw [upd_ne (ne_of_none e nC), upd_ne hb]; exact e⟩
    · by_cases hb : p.1 = P
      · rw [hu p hp hb, hb]
        refine ⟨_, by rw [upd_ne (ne_of_none hP nC), upd_same], by rw [eL]; exact PySem.TriplesOk_snoc _ _ _ _ ht, fun p' cv hcv => ?_⟩
        rw [eL] at hcv
        rcases LamX.among_app _ ht hcv with z | z
        · obtain ⟨c0, e1, e2⟩ := ha p' cv z
          exact ⟨c0, e1, hE _ _ e2 LamX.codeO_ne⟩
        · exact ⟨c', z, upd_same⟩
      · obtain ⟨ps', a1, a2, a3⟩ := hT' p hp
        refine ⟨ps', by rw [upd_ne (ne_of_none a1 nC), upd_ne hb]; exact a1, a2, fun p' cv hcv => ?_⟩
        obtain ⟨c0, e1, e2⟩ := a3 p' cv hcv
        exact ⟨c0, e1, hE _ _ e2 LamX.codeO_ne⟩
  | some cv =>
    obtain ⟨c', e, hco⟩ := ha pos cv hc
    subst e
    refine PySem.W.kla_makeFunctionHit (mg := X.mg) (c := c) (P := P) (ps := ps) (closure_ok hfree) I.ok.glob (I.mod.glob.keeps I.bk) hcode (TB.code.keeps I.bk) hP' ht hc bP fun ctv h' tk hx hsz => ?_
    have I1 : Inv X pins σ H { s with heap := h'.push (PySem.W.kla_obj "<lambda>" (X.env.qual ++ "<lambda>") params body scope (cloFrom X.env.cells scope.names []) ((X.mg "__name__").getD .none) c' ctv), toks := tk } := I.kept fun b o e => Heap.get?_push_of_some _ (hx b o e)
    exact h h'.objs.size c' ((X.mg "__name__").getD .none) ctv H _ I1 (.refl H) (Heap.get?_push_size _ rfl) hco
end
/-- x[1], x a local pair -/
theorem eval_snd {prog : Program} {w : World} {A : Around} {E : Value → Shared → Prop} {Q : Value → Shared → Prop} {env : PySem.Env} {s : Shared} {m : Str → Option Value} {x : Str} {t : Addr} {u0 u1 : Value} {k : Nat} {p1 p2 p3 : Pos} (hk : env.scope.kind = .function) (hl : env.kindOf x = some .local) (hn : s.heap.Ns env.locals m) (hv : m x = some (.ref t)) (ht : IsTup s.heap t #[u0, u1])
    (hd : (x == ("__debug__" : Str)) = false) (h : Q u1 { s with toks := s.toks + 1 }) : wpAny (model prog w) A (eval (.Subscript (.Name x p1) (.Constant (.int 1) k p2) p3) env) Q E s := by
  refine Subscript_ (wpAny_Name (wpAny_loadName_local hk hl hn hv (wpAny_Constant_int ?_)) hd)
  have ht' : IsTup ({ s with toks := s.toks + 1 } : Shared).heap t #[u0, u1] := ht
  exact subscriptTail_builtinR (x := u1) ht'.typeIs slot_tuple_getitem.lookup (getItem_tuple (s := { s with toks := s.toks + 1 }) (j := 1) (Q := fun r s' => r = u1 ∧ Q r s') ht' (by decide) (by decide) (by rfl) (by rfl) ⟨rfl, h⟩)
abbrev Pr3 := Int × Int × Addr
def leJ (a b : Pr3) : Bool := decide (a.2.1 ≤ b.2.1)
def PairIs (h : Heap) (v : Value) (b : Pr3) : Prop := v = .ref b.2.2 ∧ ∃ u0 t1, IsTup h b.2.2 #[u0, .int b.2.1 t1]
def rSortJ (K : PySem.W.Frag) : V → Hp → VK → Prop := fun x H1 Q => LamX.Tabs TabC.T H1 ∧ ∃ (l : Addr) (bs : List Pr3), x = .ref l ∧ SqL K H1 l (bs.map fun b => V.ref b.2.2) ∧ (∀ b ∈ bs, SqT K H1 b.2.2 [.int b.1, .int b.2.1]) ∧ bs.length ≤ 100000 ∧
  ∀ H2, XtN H1 H2 → ∀ p, H2 p = none → Q (.ref p) (upd H2 p (.lst ((bs.mergeSort leJ).map fun b => V.ref b.2.2)))
theorem eachPair {h : Heap} : ∀ {bs : List Pr3} {us : List Value}, Vals (bs.map fun b => V.ref b.2.2) us → (∀ b ∈ bs, ∃ u0 t1, IsTup h b.2.2 #[u0, .int b.2.1 t1]) → PySem.W.EachIs (PairIs h) us bs
  | [], _, .nil, _ => .nil
  | b :: bs, _, .cons r t, q => by
    cases r
    exact .cons ⟨rfl, q b List.mem_cons_self⟩ (eachPair t fun x hx => q x (List.mem_cons_of_mem _ hx))
theorem pairVals {h : Heap} : ∀ {bs : List Pr3} {us : List Value}, PySem.W.EachIs (PairIs h) us bs → Vals (bs.map fun b => V.ref b.2.2) us
  | _, _, .nil => .nil
  | _, _, .cons ⟨e, _⟩ h => .cons e (pairVals h)
section
variable {X : Cx} {te : TE}
def tSortJ (K : PySem.W.Frag) (te : TE) : TE := fun σ H Q => te σ H fun v H1 => rSortJ K v H1 Q
theorem pe_sortJ {c P : Addr} {q x : Str} {a : PySem.Expr} {params : Arguments} {scope : Scope} {kk k : Nat} {p lpos pos kpos p1 p2 p3 : Pos} (hr : Room (k + 1) X.A) (TB : LamX.TabB X.base X.mg c P) (hcode : X.env.code = .ref c) (hq : X.env.qual ++ "<lambda>" = q) (hmT : (P, q) ∈ TabC.T) (hu : ∀ p ∈ TabC.T, p.1 = P → p.2 = q)
    (hdef : defaultsOf params X.env = ([], [])) (hk : scope.kind = .function) (hco : scope.isCoroutine = false) (hgen : scope.isGenerator = false) (hnm : scope.names = [(x, .local)])
    (hbind : ∀ (v : Value) (q : Str) (pm cv ctv : Value), bindArgs (PySem.W.kla_fn "<lambda>" q params (.Subscript (.Name x p1) (.Constant (.int 1) kk p2) p3) scope [] pm cv ctv) ⟨[v], []⟩ = pure [(x, v)])
    (hg : Gl X "sorted") (hm : X.mg "sorted" = none) (ha : PE X a te) (hdb : (x == ("__debug__" : Str)) = false := by decide)
    (he : backTo pos (starEach (a :: []) X.env) = (false, eval a X.env) :: backTo pos (starEach [] X.env) := by rfl) (hpl : (backTo pos (starEach (a :: []) X.env)).any (·.1) = false := by rfl) (hs : starEach (a :: []) X.env = (false, eval a X.env) :: starEach [] X.env := by rfl) :
    PE X (.Call (.Name "sorted" p) [a] [⟨some "key", .Lambda params (.Subscript (.Name x p1) (.Constant (.int 1) kk p2) p3) scope lpos, kpos⟩] pos) (tSortJ X.K te) := by
  refine ⟨fun pins s σ H Q I h => wpAny_Call_Name_kw (ld_blt I hg hm boot_sorted (callWith_kw (thn ((pa_cons ha pa_nil hs).run pos pins s σ H (fun vs H1 => ∃ v, vs = [v] ∧ rSortJ X.K v H1 Q) I ?_) fun us s1 ⟨vs, H1, I1, r1, q1⟩ => ?_) he hpl rfl rfl))⟩
  · have key : ∀ (te : TE) (R R' : VK), te σ H R → te σ H R := fun _ _ _ z => z
    show te σ H fun v H1 => ∃ v', [v] = [v'] ∧ rSortJ X.K v' H1 Q
    have e : (fun (v : V) (H1 : Hp) => ∃ v', [v] = [v'] ∧ rSortJ X.K v' H1 Q) = fun v H1 => rSortJ X.K v H1 Q := by
      funext v H1
      exact propext ⟨fun ⟨v', e, z⟩ => by cases e; exact z, fun z => ⟨v, rfl, z⟩⟩
    rw [e]
    exact h
  obtain ⟨x0, rfl, hT, l, bs, rfl, hql, hqt, few, qk⟩ := q1
  obtain ⟨u, rfl, ru⟩ := vals1 r1
  cases ru
  show wpAny _ _ (evalAll [do let v ← eval (.Lambda params (.Subscript (.Name x p1) (.Constant (.int 1) kk p2) p3) scope lpos) X.env; standAt pos; pure v]) _ _ s1
  have hnf : ∀ y ∈ scope.names, y.2 = .free → ∃ c, X.env.cells.lookup y.1 = some c := fun y hy e => by
    rw [hnm, List.mem_singleton] at hy
    rw [hy] at e
    cases e
  refine wpAny_evalAll_cons (wpAny_bind (lam_make3 I1 TB hcode hq hmT hu hT hdef hnf fun f c' pm ctv H2 s2 I2 xt hf hcd => wpAny_bind (wpAny_standAt (wpAny_pure (wpAny_evalAll_nil ?_)))))
  show wpAny _ _ (call (.builtin "sorted") [.ref l] [(Str.ofString "key", .ref f)]) _ _ s2
  have hcl : cloFrom X.env.cells scope.names [] = [] := by rw [hnm]; rfl
  rw [hcl] at hf
  have cr : s2.heap.CodeRec (.ref c') q := by
    obtain ⟨⟨oc, vs, t, h1, h2, h3⟩, _, _⟩ := I2.hok c' _ hcd
    exact ⟨c', oc, vs, t, rfl, h1, h2, h3⟩
  have off : ∀ {a : Addr} {u : HO}, H1 a = some u → (∀ ps, u ≠ .tbl ps) → ∀ p ∈ TabC.T, p.1 ≠ a := fun {a u} h n p hp z => by
    obtain ⟨ps, e1, _⟩ := hT p hp
    rw [z, h] at e1
    cases e1
    exact n ps rfl
  have mono : ∀ {a : Addr} {u : HO}, Rd H1 a u → (∀ ps, u ≠ .tbl ps) → Rd H2 a u := fun {a u} h n => by
    rcases h with h | ⟨o, h⟩
    · exact .inl (xt.hx _ _ h (off h n))
    · exact .inr ⟨o, xt.hx _ _ h (off h fun _ z => nomatch z)⟩
  have hql2 : SqL X.K H2 l (bs.map fun b => V.ref b.2.2) := hql.imp (fun z => mono z fun _ z => nomatch z) id
  have hqt2 : ∀ b ∈ bs, SqT X.K H2 b.2.2 [.int b.1, .int b.2.1] := fun b hb => (hqt b hb).imp (fun z => mono z fun _ z => nomatch z) id
  obtain ⟨its, rv, pl, hz⟩ := I2.list hql2
  have tups : ∀ b ∈ bs, ∃ u0 t1, IsTup s2.heap b.2.2 #[u0, .int b.2.1 t1] := fun b hb => by
    obtain ⟨its, r, pt, _⟩ := I2.tuple (hqt2 b hb)
    cases r with
    | cons r0 r =>
      cases r with
      | cons r1 r =>
        cases r
        obtain ⟨t1, rfl⟩ := r1
        exact ⟨_, t1, pt⟩
  refine PySem.W.sorted_key_data (R := PairIs s2.heap) (bs := bs) (b := false) (f := .ref f) (fun b : Pr3 => .int b.2.1) pl.isList (eachPair rv tups) ?_ ?_ ?_ ?_ (ksk_s1 _ _) (fun a => ksk_l1 _ _) (fun a => rfl) ?_ ?_
  · intro d hd d' hd'
    obtain ⟨_, _, rfl⟩ := List.mem_map.mp hd
    obtain ⟨_, _, rfl⟩ := List.mem_map.mp hd'
    rfl
  · refine .inr fun d hd => ?_
    obtain ⟨_, _, rfl⟩ := List.mem_map.mp hd
    exact ⟨nofun, nofun⟩
  · exact big5 few
  · intro y _
    show X.A.units + 2 + PyData.depth (.int _) < cLine
    simp only [PyData.depth]
    have := hr.un
    omega
  · rintro u b ⟨rfl, u0, t1, tp⟩ hb h1 tk keep
    refine wpAny_call (codeAny_mono (R := fun r s' => ∃ u', r = .ok (.ret u') ∧ PySem.W.KeyPure (.int b.2.1) { s2 with heap := h1, toks := tk } u' s') ?_ fun r s' hq => ?_)
    · refine PySem.W.kla_callFunE (by have := hr.dp; show X.A.depth < _; omega) (keep _ _ hf) rfl hco hgen rfl (cr.keeps keep) ?_
      rw [hbind]
      refine wpAny_pure (wpAny_newFunctionEnv (fun y hy => ?_) (fun y hy => ?_) (fun h₂ hns hsb => ⟨(I2.nolimit.keeps keep).fresh _ hsb, ?_⟩) hk)
      · have hy : y ∈ scope.names := hy
        rw [hnm, List.mem_singleton] at hy
        rw [hy]
        intro z
        cases z
      · rw [List.mem_singleton] at hy
        show scope.names.lookup y.1 = _
        rw [hy, hnm]
        simp [List.lookup]
      · have kp : ∀ b o, h1.get? b = some o → h₂.get? b = some o := fun b o e => hsb.extBut b o (Nat.ne_of_lt (Heap.lt_size e)) (Heap.get?_push_of_some _ e)
        refine PySem.W.kla_codeExpr (eval_snd (t := b.2.2) (u0 := u0) (u1 := .int b.2.1 t1) hk ?_ hns ?_ ((tp.keeps keep).keeps kp) hdb ⟨_, rfl, _, _, rfl, kp, Reads.int _ _⟩)
        · show scope.names.lookup x = _
          rw [hnm]
          simp [List.lookup]
        · simp [List.lookup]
    · obtain ⟨u', rfl, z⟩ := hq
      exact z
  · intro out cc h' tk keep hn hnew hlen each
    rw [PySem.W.dataLe_int] at each
    have fresh : H2 (s2.heap.objs.size + 1) = none := I2.hok.fresh (Nat.le_succ _)
    have ej : (fun a b : Pr3 => decide (a.2.1 ≤ b.2.1)) = leJ := rfl
    rw [ej] at each
    refine ⟨.ref _, _, I2.laid (o := .lst ((bs.mergeSort leJ).map fun b => V.ref b.2.2)) keep (Nat.le_succ _) ⟨?_, out, cc, pairVals each, hnew⟩, rfl, qk H2 xt _ fresh⟩
    rw [List.length_map, List.length_mergeSort]
    exact big5 few
end
end Y
/-! Y: enumerate(a text); pairs sorted by their second part, in terms of data. -/
namespace Y
open PySem PySem.Spec PyProof.Rows L2
variable [TabC]
/-- the signs of a text, each in a new pair -/
def Ites (x : Str) : It :=
  ⟨fun i _ => i < x.cps.size, fun i H v H' => ∃ T c, v = .ref T ∧ H T = none ∧ H' = upd H T (.tup [.int (i : Nat), .str ⟨#[c]⟩]) ∧ x.cps[i]? = some c, fun i _ => x.cps.size ≤ i⟩
theorem draws_str {prog : Program} {w : World} {A : Around} (hh : A.handled = none) (it : Addr) (x : Str) (t : Tok) :
    Draws prog w A it [it] x.cps.size (fun i v => ∃ c u, x.cps[i]? = some c ∧ v = .str ⟨#[c]⟩ u) (fun i h => h.IsStrIter it (strIterType x) x t i) := by
  unfold strIterType
  split
  · exact Draws.strAscii hh it x t
  · exact Draws.strWide hh it x t
theorem turn_enumS {P : Program} {w : World} {K : PySem.W.Frag} {elts : List Expr} {kk : Nat} {tpos : Pos} (x : Str) (t : Tok) (e it : Addr) :
    Turn P w K (.Tuple elts kk tpos) (Ites x) [e, it] e (fun i h => (∃ old, IsEnum h e it ((i : Nat) : Int) old) ∧ h.IsStrIter it (strIterType x) x t i ∧ e ≠ it ∧ i ≤ x.cps.size) where
  mem := by simp
  obj := fun i h st b hb => by
    obtain ⟨⟨old, he⟩, ⟨o, ho, hc, hd⟩, _⟩ := st
    have e' : b = e ∨ b = it := by simpa using hb
    rcases e' with z | z
    · rw [z]; exact ⟨_, he, fun v q => nomatch q⟩
    · rw [z]; exact ⟨o, ho, fun v q => by rw [hd] at q; cases q⟩
  keep := fun i h h' st k => let ⟨⟨old, he⟩, ⟨o, ho, r⟩, hne, hle⟩ := st; ⟨⟨old, k e (by simp) _ he⟩, ⟨o, k it (by simp) o ho, r⟩, hne, hle⟩
  item := by
    intro X hP hw hK hc i pins s σ H E I hf st hg
    subst hP hw hK
    obtain ⟨⟨old, he⟩, hit, hne, hle⟩ := st
    have hel : e < s.heap.objs.size := Heap.lt_size he
    have hil : it < s.heap.objs.size := by obtain ⟨_, q, _⟩ := hit; exact Heap.lt_size q
    have D := draws_str (prog := X.prog) (w := X.w) (A := X.A.in1) (I.ok.hd hc) it x t
    refine wpAny_pyNext_enum_itemD D he hit hg hne (by simpa using hne) fun y h' tk hy ho hit' hT hsz hk => ?_
    obtain ⟨c, u, hx, rfl⟩ := hy
    refine ⟨_, rfl, wpAny_letOwnedTupleGo_enum (s := { s with heap := h', toks := tk + 1 }) ho fun h'' he' sb => ?_⟩
    have hT2 : h''.get? s.heap.objs.size = some { cls := .type "tuple", data := .seq #[.int i tk, .str ⟨#[c]⟩ u] } := (sb.2 _ (Nat.ne_of_gt hel)).trans hT
    have new : ObjOk X.prog X.w (upd H s.heap.objs.size (.tup [.int (i : Nat), .str ⟨#[c]⟩])) h'' s.heap.objs.size (.tup [.int (i : Nat), .str ⟨#[c]⟩]) :=
      ⟨by show 2 ≤ sizeLine; decide, [.int i tk, .str ⟨#[c]⟩ u], .cons ⟨_, rfl⟩ (.cons ⟨_, rfl⟩ .nil), ⟨_, hT2, rfl, _, rfl⟩⟩
    have I1 : Inv X pins σ (upd H s.heap.objs.size (.tup [.int (i : Nat), .str ⟨#[c]⟩])) { s with heap := h'', toks := tk + 1 } :=
      I.turnedNew (ch := [e, it]) (fun b ob hb q => (sb.2 b (fun z => hb (by simp [z]))).trans (hk b ob (fun z => hb (by simp [z])) (fun z => hb (by simp [z])) q)) hf (Nat.le_refl _) new
    refine ⟨.ref s.heap.objs.size, _, I1, rfl, ⟨_, c, rfl, I.hok.fresh (Nat.le_refl _), rfl, hx⟩, ⟨⟨.str ⟨#[c]⟩ u, ?_⟩, ?_, hne, hg⟩, fun b hb => ?_⟩
    · have e1 : ((i + 1 : Nat) : Int) = (i : Int) + 1 := by omega
      rw [e1]; exact he'
    · obtain ⟨o, ho', r⟩ := hit'
      exact ⟨o, (sb.2 it (Ne.symm hne)).trans ho', r⟩
    · have hb' : b < s.heap.objs.size := by
        have e' : b = e ∨ b = it := by simpa using hb
        rcases e' with z | z
        · rw [z]; exact hel
        · rw [z]; exact hil
      rw [upd_ne (Nat.ne_of_lt hb')]
      exact (hf b hb).1
  done := by
    intro X hP hw hK hc i pins s σ H E I hf st hg
    subst hP hw hK
    obtain ⟨⟨old, he⟩, hit, hne, hle⟩ := st
    obtain ⟨f0, f1, f2, f3, f4, f5⟩ := hf it (by simp)
    obtain rfl : i = x.cps.size := Nat.le_antisymm hle hg
    have D := draws_str (prog := X.prog) (w := X.w) (A := X.A.in1) (I.ok.hd hc) it x t
    exact wpAny_pyNext_enum_endD D he hit fun h' eb => ⟨rfl, I.turned (t' := s.toks) (fun b o hb q => eb b o hb q) f0 f1 f3 f4 f5⟩
  self := fun A i s Q E st h => let ⟨⟨_, he⟩, _⟩ := st; wpAny_pyIter_enum he h
def iEnumS (te : TE) : TI := fun σ H R => te σ H fun v H1 => ∃ x, v = .str x ∧ R (Ites x) H1
theorem pi_enumS {X : Cx} {a : Expr} {te : TE} {p pos tpos : Pos} {elts : List Expr} {kk : Nat} (hg : Gl X "enumerate") (hm : X.mg "enumerate" = none) (ha : PE X a te) (hs : starEach (a :: []) X.env = (false, eval a X.env) :: starEach [] X.env := by rfl) (hs2 : starEach [a] X.env = [(false, eval a X.env)] := by rfl) :
    PI X (.Tuple elts kk tpos) (.Call (.Name "enumerate" p) [a] [] pos) (iEnumS te) := by
  refine ⟨fun pins s σ H R I h => ?_⟩
  refine Call_ (ld_blt I hg hm boot_enumerate (PyProof.Rows.callWith_type1 (thn ((pa_cons ha pa_nil hs).run pos pins s σ H (fun vs H1 => ∃ x, vs = [.str x] ∧ R (Ites x) H1) I ?_) fun us s1 ⟨vs, H1, I1, r1, q1⟩ => ?_) hs2 rfl))
  · show te σ H fun v H1 => ∃ x, [v] = [.str x] ∧ R (Ites x) H1
    have e : (fun (v : V) (H1 : Hp) => ∃ x, [v] = [V.str x] ∧ R (Ites x) H1) = fun v H1 => ∃ x, v = .str x ∧ R (Ites x) H1 := by
      funext v H1
      exact propext ⟨fun ⟨x, e, z⟩ => ⟨x, by cases e; rfl, z⟩, fun ⟨x, e, z⟩ => ⟨x, by rw [e], z⟩⟩
    rw [e]
    exact h
  obtain ⟨x, ex, q⟩ := q1
  subst ex
  obtain ⟨u, rfl, ru⟩ := vals1 r1
  obtain ⟨t, rfl⟩ := ru
  refine call_enumerate_str fun h' he hit hsz hk => wpAny_pyIter_enum he ?_
  have I2 : Inv X pins σ H1 { s1 with heap := h' } := I1.kept (t' := s1.toks) hk
  refine ⟨s1.heap.objs.size + 1, [s1.heap.objs.size + 1, s1.heap.objs.size], _, _, H1, rfl, I2, turn_enumS x t (s1.heap.objs.size + 1) s1.heap.objs.size, ⟨⟨.none, he⟩, hit, Nat.succ_ne_self _, Nat.zero_le _⟩, fun b hb => ?_, q⟩
  have e' : b = s1.heap.objs.size + 1 ∨ b = s1.heap.objs.size := by simpa using hb
  have hle : s1.heap.objs.size ≤ b := by
    rcases e' with z | z
    · rw [z]; exact Nat.le_add_right _ _
    · rw [z]; exact Nat.le_refl _
  exact I1.fpOk hle (I1.hok.fresh hle)
section
variable {K : Kx} {E : XK} {kp : Nat → Bool} {F F' F1 F2 H H' H1 H2 : Hp} {as as' as1 as2 bs : List Addr} {σ σ' σ1 : L2.St} {ρ : Env} {te tb tc : TE} {ta : TA} {ga gb gc : Env → Option M} {xa xb : G D}
def enumS (s : List Nat) : List D := s.zipIdx.map fun p => .tup [.int (p.2 : Nat), .str [p.1]]
def enumD : D → Option (List D)
  | .str s => some (enumS s)
  | _ => none
theorem walks_enumS (x : Str) : Walks K F H (Ites x) (enumS x.cps.toList) := fun i F1 H1 g1 g2 => by
  refine ⟨fun d e => ?_, fun hl => (by simpa [enumS] using hl : x.cps.size ≤ i)⟩
  unfold enumS at e
  rw [List.getElem?_map, List.getElem?_zipIdx] at e
  cases q : x.cps.toList[i]? with
  | none => rw [q] at e; cases e
  | some c =>
    rw [q] at e
    obtain rfl := Option.some.inj e
    obtain ⟨hi, hc⟩ := List.getElem?_eq_some_iff.mp q
    refine ⟨(by simpa using hi : i < x.cps.size), fun v H2 y => ?_⟩
    obtain ⟨T, c', rfl, hT, rfl, hc'⟩ := y
    have : c' = c := by
      rw [← Array.getElem?_toList, q] at hc'
      exact (Option.some.inj hc').symm
    subst this
    refine ⟨_, Gr.newF g2 hT, .tup (.of upd_same) (.cons (by simpa using DV.int _) (.cons (.str' [c']) .nil))⟩
theorem ji_enumS (h : EX K E kp te xa) : JI K E kp (iEnumS te) (gBind xa fun d => gOpt (enumD d)) := fun F H σ ρ as o R hs so e hx k => by
  refine h.use hs so e hx fun d ρ1 F1 H1 as1 v g1 so1 r1 e1 => ?_
  obtain ⟨ds, e2, rfl⟩ := gOpt_ok e1
  cases d <;> simp only [enumD] at e2 <;> cases e2
  obtain ⟨x, rfl, rfl⟩ := r1.str_inv
  exact ⟨x, rfl, k _ _ rfl F1 H1 as1 _ g1 so1 (walks_enumS x)⟩
def pEnum (g : Env → Option M) : Env → Option (List D) := fun ρ => match g ρ with
  | some (.dat d) => enumD d
  | _ => none
theorem jip_enumS (h : EP K te ga) : JIP K (iEnumS te) (pEnum ga) := fun F H σ ρ as ds R hs so e k => by
  unfold pEnum at e
  split at e
  case h_2 => cases e
  rename_i d e1
  cases d <;> simp only [enumD] at e <;> cases e
  refine h F H σ ρ as _ _ hs so e1 fun F1 H1 v rs g1 r => ?_
  obtain ⟨x, rfl, rfl⟩ := r.dat_inv.1.str_inv
  exact ⟨x, rfl, k F1 H1 _ g1 (walks_enumS x).p⟩
/-! ### pairs sorted -/
def pairL : List D → Option (List (Int × Int))
  | [] => some []
  | .tup [.int a, .int b] :: ds => (match pairL ds with
    | some ps => some ((a, b) :: ps)
    | none => none)
  | _ => none
def leP (a b : Int × Int) : Bool := decide (a.2 ≤ b.2)
def pairD (p : Int × Int) : D := .tup [.int p.1, .int p.2]
def fSortP : D → Option M
  | .lst ds => (match pairL ds with
    | some ps => if ps.length ≤ 100000 then some (.lst ((ps.mergeSort leP).map (M.dat ∘ pairD))) else none
    | none => none)
  | _ => none
theorem pairL_vals : ∀ {ds : List D} {ps : List (Int × Int)} {vs : List V}, pairL ds = some ps → DVs K F vs ds → ∃ bs : List Pr3, vs = bs.map (fun b => V.ref b.2.2) ∧ ps = bs.map (fun b => (b.1, b.2.1)) ∧ ∀ b ∈ bs, DV K F (.ref b.2.2) (pairD (b.1, b.2.1))
  | [], ps, vs, e, r => by
    simp [pairL] at e
    subst e
    cases r
    exact ⟨[], rfl, rfl, by simp⟩
  | d :: ds, ps, vs, e, r => by
    unfold pairL at e
    split at e
    · cases e
      rename_i h; cases h
    · rename_i a b ds' h
      cases h
      split at e
      case h_2 => cases e
      rename_i ps' e1
      cases e
      cases r with
      | cons r0 r =>
        obtain ⟨bs, h1, h2, h3⟩ := pairL_vals e1 r
        obtain ⟨t, xs, rfl, h4, h5⟩ := r0.tup_inv
        refine ⟨(a, b, t) :: bs, by rw [h1]; rfl, by rw [h2]; rfl, fun z hz => ?_⟩
        rcases List.mem_cons.mp hz with rfl | hz
        · exact .tup h4 h5
        · exact h3 z hz
    · cases e
theorem DVs.of_mem : ∀ {bs : List Pr3}, (∀ b ∈ bs, DV K F (.ref b.2.2) (pairD (b.1, b.2.1))) → DVs K F (bs.map fun b => V.ref b.2.2) (bs.map fun b => pairD (b.1, b.2.1))
  | [], _ => .nil
  | b :: bs, h => .cons (h b List.mem_cons_self) (DVs.of_mem fun z hz => h z (List.mem_cons_of_mem _ hz))
theorem DV.pair_sq {a b : Int} {t : Addr} (h : DV K F (.ref t) (pairD (a, b))) : SqT K.K F t [.int a, .int b] := by
  obtain ⟨t', xs, e, h1, h2⟩ := DV.tup_inv (show DV K F (.ref t) (.tup [.int a, .int b]) from h)
  cases e
  cases h2 with
  | cons x h2 =>
    cases h2 with
    | cons y h2 =>
      cases h2
      rw [← x.int_inv, ← y.int_inv]
      exact h1
theorem XtN.gr (hs : Same F H) (t : TabOk F H) (x : XtN H H2) : Gr F H [] F H2 [] := by
  have off : ∀ a o, F a = some o → ∀ p ∈ TabC.T, p.1 ≠ a := fun a o e p hp z => by
    have := t.2 p hp
    rw [z, e] at this
    cases this
  refine ⟨.refl _, fun a o e => x.hx a o (hs _ _ e) (off a o e), fun a o e _ n => x.hx a o e fun p hp z => ?_, fun _ z => .inl z, fun _ e _ _ => e, fun a ps e _ => x.th a ps e, fun t => ⟨x.tb t.1, t.2⟩⟩
  obtain ⟨ps, h1, _⟩ := t.1 p hp
  rw [z, e] at h1
  cases h1
  exact n ps rfl
theorem em_sortJ (h : EX K E kp te xa) : EM K E kp (tSortJ K.K te) (gBind xa fun d => gOpt (fSortP d)) := fun F H σ ρ as o Q hs so e hx k => by
  refine h.use hs so e hx fun d ρ1 F1 H1 as1 v g1 so1 r1 e1 => ?_
  obtain ⟨m, e2, eo⟩ := gOpt_ok e1
  cases d <;> simp only [fSortP] at e2 <;> try cases e2
  rename_i ds
  split at e2
  case h_2 => cases e2
  rename_i ps e3
  split at e2
  case isFalse => cases e2
  rename_i few
  cases e2
  obtain ⟨l, xs, rfl, h1, h2⟩ := r1.lst_inv
  obtain ⟨bs, rfl, rfl, h3⟩ := pairL_vals e3 h2
  refine ⟨so1.tab.1, l, bs, rfl, .of (g1.fh _ _ h1), fun b hb => SqT.mono g1.fh (h3 b hb).pair_sq, by simpa using few, fun H2 xt p hp => ?_⟩
  have gx := xt.gr g1.fh so1.tab
  have gn := Gr.new (o := .lst ((bs.mergeSort leJ).map fun b => V.ref b.2.2)) gx.fh hp
  have hsort : ((bs.map fun b => (b.1, b.2.1)).mergeSort leP) = (bs.mergeSort leJ).map fun b => (b.1, b.2.1) := (List.map_mergeSort (f := fun b : Pr3 => (b.1, b.2.1)) (r := leJ) (s := leP) fun _ _ _ _ => rfl).symm
  refine em_fin (t := .dat .non) so1 g1 eo k F1 _ (.ref p) [p] (gx.trans (gn.less (by simp))) ?_ fun z hz => by rw [List.mem_singleton.mp hz]; exact back_none gx hp
  rw [hsort, List.map_map]
  refine .lst upd_same (gx.fh.free hp) ?_ (by simp)
  have := Owns.dats (H := upd H2 p (.lst ((bs.mergeSort leJ).map fun b => V.ref b.2.2))) (DVs.of_mem (bs := bs.mergeSort leJ) fun b hb => h3 b (List.mem_mergeSort.mp hb))
  simpa [Function.comp_def] using this
end
end Y
/-! Y: except of one class, without a name; a def whose code object's table is known. -/
namespace Y
open PySem PySem.Spec PyProof.Rows L2
section
variable [TabC]
def hOnly (n0 : Nat) (h : G Fl) (n : Nat) : G Fl := fun ρ => if n = n0 then h ρ else none
def tTryO (K : Kx) (n0 : Nat) (tb : WX → TS) (u : TS) : TS := fun D σ H => tb (wMany K.K (fun _ _ _ _ => False) D [(.ref (K.ca n0), fun _ _ _ => u)]) D σ H
theorem ps_tryO {X : Cx} {K : Kx} (hK : X.K = K.K) {x : Str} {n0 : Nat} {body suite : List Stmt} {b₀ : Stmt} {tb : WX → TS} {u : TS} {np pos pos' : Pos} (xf : ExcF K X.mg (K.ca 20) x n0) (hs : X.stack = X.env :: X.outer) (hf : X.env.frame = some X.env.locals) (hg : Gl X x)
    (hb : ∀ (W : WX) (pn : List (Addr × Obj)) (xe : Value → Shared → Prop), L2N.Takes (X.tr pn xe) W → PSs (X.tr pn xe) body (tb W))
    (hsu : ∀ (a : Addr) (oe : Obj) (pn : List (Addr × Obj)), PSs (X.suite a ((a, oe) :: pn)) (b₀ :: suite) u) (hd : (x == ("__debug__" : Str)) = false := by decide) :
    PS X (.Try body [.ExceptHandler (some (.Name x np)) none (b₀ :: suite) pos'] [] [] pos) (tTryO K n0 tb u) := by
  have h := L2N.ps_try_many (X := X) (body := body) (pos := pos) (tb := tb) (Wout := fun _ _ _ _ => False) hs hf takesN0 (fun W pn xe tk _ => hb W pn xe tk)
    (.cons (x := x) (c := .ref (K.ca n0)) (ts := fun _ _ _ => u) (b₀ := b₀) (suite := suite) (np := np) (pos' := pos') ⟨hg, hd, .inl xf.g⟩ (fun a oe cls d pn _ _ => hsu a oe pn) .nil)
  rw [hK] at h
  exact h
section
variable {K : Kx} {E : XK} {kp : Nat → Bool} {F F' F1 F2 H H' H1 H2 : Hp} {as as' as1 as2 bs : List Addr} {σ σ' σ1 : L2.St} {ρ : Env}
theorem rn_tryO {mg : Str → Option Value} {x : Str} {n0 : Nat} {tb : WX → TS} {u : TS} {g h : G Fl} (xf : ExcF K mg (K.ca 20) x n0) (hb : ∀ W, RW K W kp (tb W) g) (hu : RN K (fun _ _ _ => True) kp u h) : RN K E kp (tTryO K n0 tb u) (gTry (hOnly n0 h) g) := fun F H σ ρ as o D hs so e hxp hp => by
  unfold gTry at e
  split at e
  · rename_i n ρ' e1
    unfold hOnly at e
    split at e
    · rename_i en
      subst en
      refine hb _ F H σ ρ as (.ex n ρ') D hs so e1 (fun C ρ'' e' F' H' σ' as' k' g' s' => ?_) FP.ex
      cases e'
      refine ⟨true, xf.se, fun _ a ha => ?_, fun z => nomatch z⟩
      exact hu F' H' σ' ρ' as' o D g'.fh s' e (fun _ _ _ _ _ _ _ _ _ _ => trivial) (hp.step k' g')
    · cases e
  · rename_i r hne
    cases ho : g ρ with
    | none => rw [ho] at e; cases e
    | some r' =>
      rw [ho] at e
      cases e
      cases o with
      | ex n ρ' => exact absurd ho (hne n ρ')
      | ok f ρ' => exact hb _ F H σ ρ as (.ok f ρ') D hs so ho (fun C ρ'' e' => by cases e') hp
end
/-- one class of exceptions, told by itself -/
def excF1 (K : PySem.W.Frag) (x : Str) : Bool :=
  He.eqO (PySem.W.nsIn K mainGlobals x) (some (some (.ref (He.ga K x)))) && PySem.W.excIn K (He.ga K x) bmVE "ValueError.__new__" && PySem.W.keepIn K (.ref (He.ga K x)) && decide (PySem.W.subIn K (.ref (He.ga K x)) (.type "BaseException") = some true) &&
  decide (PySem.W.typeIn K (.ref (He.ga K x)) = some (.type "type")) && decide (PySem.W.exmOne K (.ref (He.ga K x)) (.ref (He.ga K "NestError")) = some true) && decide (PySem.W.exmOne K (.ref (He.ga K x)) (.ref (He.ga K x)) = some true)
theorem excF1_ok {K : Kx} {h : Heap} {mg : Str → Option Value} {x : Str} {n : Nat} (X : K.K.In h) (G : h.Ns mainGlobals mg) (e20 : K.ca 20 = He.ga K.K "NestError") (en : K.ca n = He.ga K.K x) (c : excF1 K.K x = true) : ExcF K mg (K.ca 20) x n := by
  simp only [excF1, Bool.and_eq_true, decide_eq_true_eq] at c
  obtain ⟨⟨⟨⟨⟨⟨q1, q2⟩, q3⟩, q4⟩, q5⟩, q6⟩, q7⟩ := c
  exact ⟨by rw [en]; exact PySem.W.mg_of X G (He.eqO_ok q1), by rw [en]; exact q2, by rw [en]; exact q3, by rw [en]; exact q4, by rw [en]; exact q5, by rw [en, e20]; exact q6, by rw [en]; exact q7⟩
/-- a def's code object, its table -/
def TabH (mg : Str → Option Value) (base : Heap) (q : Str) (fd : FuncData) : Prop := ∃ c P, fd.code = .ref c ∧ LamX.TabB base mg c P ∧ (P, q) ∈ TabC.T ∧ ∀ p ∈ TabC.T, p.1 = P → p.2 = q
theorem okC {P : Program} {w : World} {K : PySem.W.Frag} {mg : Str → Option Value} {base : Heap} {x qual : Str} {params : Arguments} {body : List Stmt} {scope : Scope} {dvs : List V} {kws : List (Str × V)} {f : Addr} {fd : FuncData} {CX : CXT} {N ps : List Str} {k : Nat} {sp : Sp} {c : Addr}
    (F : FunD K x qual params body scope dvs kws f fd) (hc : fd.code = .ref c) (S : FnScope N ps scope) (len : ∀ vs H Q E, sp vs H Q E → vs.length = ps.length)
    (hbody : ∀ (A : Around) (outer : List PySem.Env) (s : Shared) (H : Hp) (vs : List V) (Q : VK) (E : XK), Room k (A.deeper (envOfC qual scope s.heap.objs.size f (.ref c))) → sp vs H Q E →
      ∃ t, PSs (cxOf CX P w K mg base N qual scope f (.ref c) A outer s H E) body t ∧ t { nx := fun _ H' => Q .non H', rt := Q } (start N vs) H) : FnOk P w K mg base CX (k + 1) f fd ps sp := by
  obtain ⟨oc, od, dV, kV, doc, pm, an, cdv, ct, osl, rfl, lk, hcd, _, _⟩ := F.ex
  obtain rfl : cdv = .ref c := hc
  exact fn_of lk hcd S len fun A outer s H vs Q E hr hsp => hbody A outer s H vs Q E hr hsp
end
/-- the code object that the head tells -/
theorem code_at {K : PySem.W.Frag} {p : He.Defn} {x qual : Str} {params : Arguments} {body : List Stmt} {scope : Scope} {dvs : List V} {kws : List (Str × V)} {fd : FuncData} (F : FunD K x qual params body scope dvs kws (He.fAd K p) fd) : fd.code = .ref (He.cT K p).1 := by
  obtain ⟨oc, od, dV, kV, doc, pm, an, cdv, ct, osl, rfl, lk, hcd, _, _⟩ := F.ex
  obtain ⟨c, rfl⟩ := He.codeIn_ref hcd
  exact congrArg Value.ref (He.codeOf_eq lk rfl).symm
/-- one table, all else frozen -/
theorem sp_tab {K : Kx} {P : Addr} {q : Str} {f : List M → Option Rr} {H : Hp} {a : Addr} {ns : List Int} (hP : H P = some (.tbl #[])) (hS : SqL K.K H a (ns.map V.int)) (hm : f [.dat (.scr ns)] = some (.ok (.dat (.bl true)) none)) :
    @spM ⟨[(P, q)]⟩ K none f [.ref a] H (fun v _ => v = .bl true) fun _ _ _ => False := by
  have hs : Same (fun b => if b = P then none else H b) H := fun b o e => by
    by_cases hb : b = P
    · simp only [if_pos hb] at e
      cases e
    · simp only [if_neg hb] at e
      exact e
  refine ⟨fun b => if b = P then none else H b, [.dat (.scr ns)], [] ++ [], _, hs, ⟨fun p hp => ?_, fun p hp => ?_⟩, .cons (.dat (.scr ?_)) .nil (by simp), hm, ?_, ?_⟩
  · obtain rfl := List.mem_singleton.mp hp
    exact LamX.TabS.nil hP
  · obtain rfl := List.mem_singleton.mp hp
    simp only [if_true]
  · refine hS.imp (fun h => ?_) id
    have n : a ≠ P := fun z => by
      subst z
      rcases h with h | ⟨_, h⟩ <;> rw [hP] at h <;> cases h
    rcases h with h | ⟨o, h⟩
    · exact .inl (by simp only [if_neg n]; exact h)
    · exact .inr ⟨o, by simp only [if_neg n]; exact h⟩
  · intro r m' e F' H' as' rs v g oa ow n
    cases e
    exact ow.dat_inv.1.bl_inv
  · intro c m' e
    cases e
end Y
/-! Y: {k: v}; a dict compared with {}; for k in a frozen dict. -/
namespace Y
open PySem PySem.Spec PyProof.Rows L2
variable [TabC]
/-! ### a dict compared with {} -/
def rEqD0 : R2 := fun x y H Q => ∃ a b ks, x = .ref a ∧ y = .ref b ∧ Rd H a (.dK ks) ∧ Rd H b (.dK []) ∧ Q (.bl ks.isEmpty) H
theorem op_eqD0 {X : Cx} (hu : X.A.units < cLine) : OpR X (compareOp .Eq) rEqD0 := by
  intro pins s σ H x y v u Q I rx ry h
  obtain ⟨a, b, ks, rfl, rfl, ea, eb, q⟩ := h
  obtain rfl : v = Value.ref a := rx
  obtain rfl : u = Value.ref b := ry
  obtain ⟨_, ya, va, ra, da⟩ := dk_rd I.hok ea
  obtain ⟨_, yb, vb, rb, db⟩ := dk_rd I.hok eb
  cases rb
  have hl : va.length = ks.length := ra.length.symm
  refine PySem.W.keq_eq (knd := mixKind X.prog X.w) (r := true) ya yb da db hu (fun h0 => ?_) (fin_bl I q ?_)
  · cases va with
    | nil => exact PySem.W.KeqHits.nil
    | cons _ _ => cases h0
  · cases ks with
    | nil => cases va with
      | nil => rfl
      | cons _ _ => cases hl
    | cons _ _ => cases va with
      | nil => cases hl
      | cons _ _ => rfl
def fEqE : M → M → Option M := fun a b => match dicOf a, dicOf b with
  | some kds, some [] => some (.dat (.bl kds.isEmpty))
  | _, _ => none
section
variable {K : Kx} {E : XK} {kp : Nat → Bool} {F F' F1 F2 H H' H1 H2 : Hp} {as as' as1 as2 bs : List Addr} {σ σ' σ1 : L2.St} {ρ : Env} {te td ty tx tv tk : TE} {ta : TA}
theorem p_eqE : P2 K rEqD0 fEqE := fun F H v w a b as bs t Q hs ha hb e k => by
  unfold fEqE at e
  split at e
  case h_2 => cases e
  rename_i kds e1 e2
  cases e
  obtain ⟨p, kvs, rfl, h1, h2⟩ := ha.dic_rd hs e1
  obtain ⟨q, kws, rfl, h3, h4⟩ := hb.dic_rd hs e2
  cases h4
  refine ⟨p, q, kvs, rfl, rfl, h1, h3, ?_⟩
  have e : kvs.isEmpty = kds.isEmpty := by cases h2 <;> rfl
  rw [e]
  exact same_dat hs (.bl _) k
/-! ### {k: v} -/
def nDisp1 (gk gv : Env → Option M) : Env → Option M := fun ρ => match gk ρ, gv ρ with
  | some (.dat k), some (.dat v) => if isKey k then some (.dic [(k, v)]) else none
  | _, _ => none
theorem en_disp1 {gk gv : Env → Option M} (hk : EP K tk gk) (hv : EP K tv gv) : EN K (tDisp [(tk, tv)]) (nDisp1 gk gv) := fun F H σ ρ as m Q hs so e k => by
  unfold nDisp1 at e
  split at e
  case h_2 => cases e
  rename_i kd vd e1 e2
  split at e
  case isFalse => cases e
  rename_i hkey
  cases e
  intro p hp
  have gn : Gr F H [] F (upd H p (.dK [])) [p] := Gr.new hs hp
  refine hk F _ σ ρ as _ _ gn.fh (so.grow (gn.less (by simp))) e1 fun F1 H1 v1 rs1 g1 o1 => ?_
  refine hv F1 H1 σ ρ as _ _ g1.fh ((so.grow (gn.less (by simp))).grow g1) e2 fun F2 H2 v2 rs2 g2 o2 => ?_
  have g12 := g1.trans g2
  have hd2 : H2 p = some (.dK []) := g12.hh _ _ upd_same (by simp)
  have fp : F2 p = none := g12.fz p (hs.free hp) (by rw [upd_same]; simp) (by simp)
  obtain ⟨key, rfl, rfl⟩ := (o1.grow g2).dat_inv.1.key hkey
  have ga : Gr F H [] F2 H2 [p] := gn.trans (g12.weak [p])
  have gm := ga.trans (Gr.mut (o := .dK [(key, v2)]) g2.fh fp List.mem_cons_self hd2)
  refine ⟨hd2, [(key, v2)], rfl, by simp, k F2 _ (.ref p) [p] (gm.less (by simp)) (.dic upd_same fp (.cons o2.dat_inv.1 .nil)) fun z hz => by rw [List.mem_singleton.mp hz]; exact hp⟩
/-! ### for k in a frozen dict -/
def tDKs (t : TS) : TS := fun D σ H => tLock t D σ H ∨ t D σ H
theorem ps_dks {X : Cx} {st : Stmt} {t : TS} (h : PS X st t) : PS X st (tDKs t) :=
  ⟨fun pins s σ H D I q => q.elim ((ps_lock h).run pins s σ H D I) (h.run pins s σ H D I)⟩
theorem Gr.unlock {d : Addr} {kvs : List (Key × V)} {od : Obj} (hd : F d = some (.dK kvs)) (hs : Same F H) (nd : d ∉ as) (g : Gr (upd F d (.frz od (.dK kvs))) (upd H d (.frz od (.dK kvs))) as F' H' as') (fd : F' d = some (.frz od (.dK kvs))) (hd' : H' d = some (.frz od (.dK kvs)))
    (tk : TabOk F H → TabOk (upd F d (.frz od (.dK kvs))) (upd H d (.frz od (.dK kvs)))) : Gr F H as (upd F' d (.dK kvs)) (upd H' d (.dK kvs)) as' := by
  refine ⟨fun b o eb => ?_, fun b o eb => ?_, fun b o eb nb t => ?_, fun a z => ?_, fun b eb nb hb => ?_, fun b ps eb hb => ?_, fun t => ?_⟩
  · by_cases n : b = d
    · subst n
      rw [hd] at eb
      cases eb
      exact upd_same
    · rw [upd_ne n]
      exact g.ff _ _ (by rw [upd_ne n]; exact eb)
  · by_cases n : b = d
    · subst n
      rw [upd_same] at eb ⊢
      exact eb
    · rw [upd_ne n] at eb ⊢
      exact g.fh _ _ eb
  · by_cases n : b = d
    · subst n
      rw [hs _ _ hd] at eb
      cases eb
      exact upd_same
    · rw [upd_ne n]
      exact g.hx _ _ (by rw [upd_ne n]; exact eb) nb t
  · rcases g.nw a z with y | y
    · exact .inl y
    · have n : a ≠ d := fun e => by rw [e, upd_same] at y; cases y
      rw [upd_ne n] at y
      exact .inr y
  · have n : b ≠ d := fun z => by rw [z, hd] at eb; cases eb
    rw [upd_ne n]
    exact g.fz _ (by rw [upd_ne n]; exact eb) (by rw [upd_ne n]; exact nb) hb
  · have n : b ≠ d := fun z => by rw [z, hs _ _ hd] at eb; cases eb
    rw [upd_ne n]
    exact g.th _ _ (by rw [upd_ne n]; exact eb) hb
  · have t2 := g.tb (tk t)
    exact ⟨fun p hp => tabs_sw (d := d) hd' (.inr ⟨_, _, rfl⟩) (fun b n => upd_ne n) (t2.1 p hp), fun p hp => by rw [upd_ne fun z => (by have := t2.2 p hp; rw [z, fd] at this; cases this)]; exact t2.2 p hp⟩
/-- the keys of a locked dict, walked -/
def wiDK (i : Nat) : TI := fun σ H R => (∃ d o kvs, σ[i]? = some (some (.ref d)) ∧ H d = some (.frz o (.dK kvs))) → iKeys (tVar i) σ H R
theorem ji_dk (i : Nat) : JI K E kp (wiDK i) (gOf (gDK (gV i))) := fun F H σ ρ as o R hs so e hx k => by
  rintro ⟨d, od, kvs, hσ, hd⟩
  obtain ⟨ds, e1, rfl⟩ := gOf_ok e
  unfold gDK at e1
  split at e1
  case h_2 => cases e1
  rename_i kds e2
  cases e1
  obtain ⟨d', kvs', rd, dv, td⟩ := ld_slot (K := K) i F H σ ρ as kds hs so e2
  obtain ⟨v, ms, h1, f⟩ := foc_slot so e2
  obtain ⟨a, xs, rfl, h2, h3⟩ := f.own.dat_inv.1.dic_inv
  obtain rfl : a = d := by
    rw [hσ] at h1
    cases h1
    rfl
  have fd : F a = some (.frz od (.dK kvs)) ∧ xs = kvs := by
    rcases h2 with q | ⟨o', q⟩
    · rw [hs _ _ q] at hd
      cases hd
    · have q' := q
      rw [hs _ _ q] at hd
      cases hd
      exact ⟨q', rfl⟩
  obtain ⟨fd, rfl⟩ := fd
  refine ⟨.ref a, hσ, a, od, rfl, .inl ⟨xs, hd, k _ ρ rfl F H as (Itk a od xs) (.refl hs) so fun j F1 H1 g1 g2 => ?_⟩⟩
  have h1' : H1 a = some (.frz od (.dK xs)) := g2 _ _ (g1 _ _ fd)
  rw [h3.keysL]
  refine ⟨fun x ex => ?_, fun hle => ⟨h1', by simpa using hle⟩⟩
  rw [List.getElem?_map] at ex
  cases ek : xs[j]? with
  | none => rw [ek] at ex; cases ex
  | some p =>
    rw [ek] at ex
    cases ex
    refine ⟨⟨h1', (List.getElem?_eq_some_iff.mp ek).1⟩, fun v H2 y => ?_⟩
    obtain ⟨rfl, kk, v', ek', rfl⟩ := y
    rw [ek] at ek'
    cases ek'
    exact ⟨F1, .refl g2, .keyL kk⟩
theorem rn_forDK {i : Nat} {tg : TG} {st : D → G Unit} {tb : TS} {gb : G Fl} (ht : JT K kp tg st) (hb : RN K E kp tb gb) : RN K E kp (tDKs (tFor (iKeys (tVar i)) tg tb)) (gCalm (sFor (gOf (gDK (gV i))) st gb)) := fun F H σ ρ as o D hs so e hx hp => by
  obtain ⟨fl, ρ1, rfl, e0⟩ := gCalm_ok e
  have core := rn_for (ji_dk (K := K) (E := E) (kp := kp) i) ht hb
  have ex : ∃ kds, gV i ρ = some (.dat (.dic kds)) := by
    unfold sFor gBind gOf gDK at e0
    cases e1 : gV i ρ with
    | none => rw [e1] at e0; cases e0
    | some m1 =>
      rw [e1] at e0
      cases m1 with
      | dat x =>
        cases x with
        | dic kds => exact ⟨kds, rfl⟩
        | _ => cases e0
      | _ => cases e0
  obtain ⟨kds, e1⟩ := ex
  obtain ⟨v, ms, h1, f⟩ := foc_slot so e1
  obtain ⟨d, kvs, rfl, rd, dv⟩ := f.own.dat_inv.1.dic_inv
  have nd : F d ≠ none := by rcases rd with q | ⟨_, q⟩ <;> rw [q] <;> simp
  have ndas : d ∉ as := fun z => nd (so.has d z).2
  rcases rd with rd | ⟨od, rd⟩
  · refine .inl ⟨d, .dK kvs, hs _ _ rd, trivial, fun od => ?_⟩
    have sw := sw_lock (u := .frz od (.dK kvs)) rd (.inr ⟨od, rfl⟩)
    have tk : TabOk F H → TabOk (upd F d (.frz od (.dK kvs))) (upd H d (.frz od (.dK kvs))) := fun t => ⟨fun p hp => tabs_sw (d := d) (hs _ _ rd) (.inl rfl) (fun b n => upd_ne n) (t.1 p hp), fun p hp => by rw [upd_ne fun z => (by have := t.2 p hp; rw [z, rd] at this; cases this)]; exact t.2 p hp⟩
    have so1 : SO K (upd F d (.frz od (.dK kvs))) (upd H d (.frz od (.dK kvs))) σ ρ as := so.sw sw (fun b n => upd_ne n) tk
    have hs1 : Same (upd F d (.frz od (.dK kvs))) (upd H d (.frz od (.dK kvs))) := fun b o eb => by
      by_cases n : b = d
      · subst n
        rw [upd_same] at eb ⊢
        exact eb
      · rw [upd_ne n] at eb ⊢
        exact hs _ _ eb
    have back : ∀ {F' H' : Hp} {as' : List Addr}, Gr (upd F d (.frz od (.dK kvs))) (upd H d (.frz od (.dK kvs))) as F' H' as' → H' d = some (.frz od (.dK kvs)) ∧ Sw F' (upd F' d (.dK kvs)) d kvs ∧ Gr F H as (upd F' d (.dK kvs)) (upd H' d (.dK kvs)) as' ∧ (TabOk F' H' → TabOk (upd F' d (.dK kvs)) (upd H' d (.dK kvs))) := fun {F' H' as'} g => by
      have fd' : F' d = some (.frz od (.dK kvs)) := g.ff _ _ upd_same
      have hd' : H' d = some (.frz od (.dK kvs)) := g.fh _ _ fd'
      refine ⟨hd', ⟨fun b n => upd_ne n, .inr ⟨od, fd'⟩, .inl upd_same⟩, g.unlock rd hs ndas fd' hd' tk, fun t2 => ⟨fun p hp => tabs_sw (d := d) hd' (.inr ⟨_, _, rfl⟩) (fun b n => upd_ne n) (t2.1 p hp), fun p hp => by rw [upd_ne fun z => (by have := t2.2 p hp; rw [z, fd'] at this; cases this)]; exact t2.2 p hp⟩⟩
    refine core _ _ σ ρ as (.ok fl ρ1) _ hs1 so1 e0 (fun C ρ'' e' => by cases e') ⟨fun ρ' eo F' H' σ' as' k' g' s' => ?_, fun ρ' eo F' H' σ' as' k' g' s' => ?_, fun ρ' eo F' H' σ' as' k' g' s' => ?_, fun m ρ' eo F' H' σ' as' rs v k' g' s' o' n' => ?_⟩ ⟨d, od, kvs, h1, upd_same⟩
    · obtain ⟨b1, b2, b3, b4⟩ := back g'
      exact ⟨b1, hp.nx _ eo _ _ σ' as' k' b3 (s'.sw b2 (fun b n => upd_ne n) b4)⟩
    · obtain ⟨b1, b2, b3, b4⟩ := back g'
      exact ⟨b1, hp.bk _ eo _ _ σ' as' k' b3 (s'.sw b2 (fun b n => upd_ne n) b4)⟩
    · obtain ⟨b1, b2, b3, b4⟩ := back g'
      exact ⟨b1, hp.ct _ eo _ _ σ' as' k' b3 (s'.sw b2 (fun b n => upd_ne n) b4)⟩
    · obtain ⟨b1, b2, b3, b4⟩ := back g'
      exact ⟨b1, hp.rt _ _ eo _ _ σ' as' rs v k' b3 (s'.sw b2 (fun b n => upd_ne n) b4) (o'.sw b2 (fun b n => upd_ne n)) n'⟩
  · refine .inr ?_
    exact core F H σ ρ as (.ok fl ρ1) D hs so e0 hx hp ⟨d, od, kvs, h1, hs _ _ rd⟩
end
end Y
/-! Y: what mirrors answer where they may raise. -/
namespace Y
open PySem L2
def Tx {α : Type} (g : G α) (ρ : Env) (Φ : α → Env → Prop) (Ε : Nat → Env → Prop) : Prop := match g ρ with
  | some (.ok a ρ') => Φ a ρ'
  | some (.ex n ρ') => Ε n ρ'
  | none => False
def TFx (f : List M → Option Rr) (ms : List M) (Φ : M → Option M → Prop) (Ε : Nat → Option M → Prop) : Prop := match f ms with
  | some (.ok r m') => Φ r m'
  | some (.ex n m') => Ε n m'
  | none => False
section
variable {α β : Type} {ρ : Env} {Φ : α → Env → Prop} {Ε : Nat → Env → Prop}
theorem T.x {g : G α} (h : T g ρ Φ) : Tx g ρ Φ Ε := by
  unfold T at h
  unfold Tx
  split at h
  · rename_i e; rw [e]; exact h
  · exact h.elim
theorem TF.x {f : List M → Option Rr} {ms : List M} {Φ : M → Option M → Prop} {Ε : Nat → Option M → Prop} (h : TF f ms Φ) : TFx f ms Φ Ε := by
  unfold TF at h
  unfold TFx
  split at h
  · rename_i e; rw [e]; exact h
  · exact h.elim
theorem Tx.mono {g : G α} {Φ' : α → Env → Prop} {Ε' : Nat → Env → Prop} (h : Tx g ρ Φ Ε) (k : ∀ a ρ', Φ a ρ' → Φ' a ρ') (k2 : ∀ a ρ', Ε a ρ' → Ε' a ρ') : Tx g ρ Φ' Ε' := by
  unfold Tx at h ⊢
  split at h
  · exact k _ _ h
  · exact k2 _ _ h
  · exact h.elim
theorem TFx.mono {f : List M → Option Rr} {ms : List M} {Φ Φ' : M → Option M → Prop} {Ε Ε' : Nat → Option M → Prop} (h : TFx f ms Φ Ε) (k : ∀ a m, Φ a m → Φ' a m) (k2 : ∀ a m, Ε a m → Ε' a m) : TFx f ms Φ' Ε' := by
  unfold TFx at h ⊢
  split at h
  · exact k _ _ h
  · exact k2 _ _ h
  · exact h.elim
@[simp] theorem Tx_bind {g : G β} {k : β → G α} : Tx (gBind g k) ρ Φ Ε ↔ Tx g ρ (fun b ρ' => Tx (k b) ρ' Φ Ε) Ε := by
  unfold Tx gBind
  cases e : g ρ with
  | none => simp
  | some r => cases r <;> simp
@[simp] theorem Tx_ret {a : α} : Tx (gRet a) ρ Φ Ε ↔ Φ a ρ := Iff.rfl
@[simp] theorem Tx_opt {o : Option α} : Tx (gOpt o) ρ Φ Ε ↔ Tp o fun a => Φ a ρ := by cases o <;> simp [Tx, gOpt]
@[simp] theorem Tx_of {p : Env → Option α} : Tx (gOf p) ρ Φ Ε ↔ Tp (p ρ) fun a => Φ a ρ := by
  unfold Tx gOf
  cases p ρ <;> simp
@[simp] theorem Tx_calm {g : G α} : Tx (gCalm g) ρ Φ Ε ↔ T g ρ Φ := by
  unfold T Tx gCalm
  cases g ρ with
  | none => simp
  | some r => cases r <;> simp
end
section
variable {ρ : Env} {Φ : Fl → Env → Prop} {Φm : M → Env → Prop} {Φd : D → Env → Prop} {Φb : Bool → Env → Prop} {Ε : Nat → Env → Prop}
@[simp] theorem Tx_set {i : Nat} {m : M} : Tx (gSet i m) ρ Φ Ε ↔ Φ .nx (ρ.set i (some m)) := Iff.rfl
@[simp] theorem Tx_skip : Tx gSkip ρ Φ Ε ↔ Φ .nx ρ := Iff.rfl
@[simp] theorem Tx_raise {n : Nat} : Tx (gRaise n) ρ Φ Ε ↔ Ε n ρ := Iff.rfl
@[simp] theorem Tx_then {g k : G Fl} : Tx (gThen g k) ρ Φ Ε ↔ Tx g ρ (fun f ρ' => match f with
    | .nx => Tx k ρ' Φ Ε
    | .bk => Φ .bk ρ'
    | .ct => Φ .ct ρ'
    | .rt m => Φ (.rt m) ρ') Ε := by
  unfold gThen
  rw [Tx_bind]
  constructor
  · intro h
    refine Tx.mono h (fun a ρ' q => ?_) fun _ _ q => q
    cases a <;> exact q
  · intro h
    refine Tx.mono h (fun a ρ' q => ?_) fun _ _ q => q
    cases a <;> exact q
@[simp] theorem Tx_gIf {b : Bool} {g k : G Fl} : Tx (gIf b g k) ρ Φ Ε ↔ (b = true → Tx g ρ Φ Ε) ∧ (b = false → Tx k ρ Φ Ε) := by cases b <;> simp [gIf]
@[simp] theorem Tx_sIf {c : G Bool} {g k : G Fl} : Tx (sIf c g k) ρ Φ Ε ↔ Tx c ρ (fun b ρ' => (b = true → Tx g ρ' Φ Ε) ∧ (b = false → Tx k ρ' Φ Ε)) Ε := by simp [sIf]
@[simp] theorem Tx_sSet {i : Nat} {g : G D} : Tx (sSet i g) ρ Φ Ε ↔ Tx g ρ (fun d ρ' => Φ .nx (ρ'.set i (some (.dat d)))) Ε := by simp [sSet]
@[simp] theorem Tx_sSetM {i : Nat} {g : G M} : Tx (sSetM i g) ρ Φ Ε ↔ Tx g ρ (fun d ρ' => Φ .nx (ρ'.set i (some d))) Ε := by simp [sSetM]
@[simp] theorem Tx_sSetT {st : D → G Unit} {g : G D} : Tx (sSetT st g) ρ Φ Ε ↔ Tx g ρ (fun d ρ' => T (st d) ρ' fun _ ρ2 => Φ .nx ρ2) Ε := by simp [sSetT]
@[simp] theorem Tx_sRet {g : G M} : Tx (sRet g) ρ Φ Ε ↔ Tx g ρ (fun m ρ' => Φ (.rt m) ρ') Ε := by simp [sRet]
@[simp] theorem Tx_sDrop {g : G M} : Tx (sDrop g) ρ Φ Ε ↔ Tx g ρ (fun _ ρ' => Φ .nx ρ') Ε := by simp [sDrop]
@[simp] theorem Tx_sFor {gi : G (List D)} {st : D → G Unit} {gb : G Fl} : Tx (sFor gi st gb) ρ Φ Ε ↔ Tx gi ρ (fun ds ρ' => Tx (gForL st gb ds) ρ' Φ Ε) Ε := by simp [sFor]
@[simp] theorem Tx_xE {g : Env → Option M} : Tx (xE g) ρ Φd Ε ↔ Tp (g ρ) fun m => Tp (asDat m) fun d => Φd d ρ := by simp [xE]
@[simp] theorem Tx_gView {g : Env → Option M} : Tx (gView g) ρ Φd Ε ↔ Tp (g ρ) fun m => Tp m.view fun d => Φd d ρ := by simp [gView]
@[simp] theorem Tx_xM {g : G M} : Tx (xM g) ρ Φd Ε ↔ Tx g ρ (fun m ρ' => Tp m.view fun d => Φd d ρ') Ε := by simp [xM]
@[simp] theorem Tx_mE {g : G D} : Tx (mE g) ρ Φm Ε ↔ Tx g ρ (fun d ρ' => Φm (.dat d) ρ') Ε := by simp [mE]
@[simp] theorem Tx_xNil {Φ : List D → Env → Prop} : Tx xNil ρ Φ Ε ↔ Φ [] ρ := Iff.rfl
@[simp] theorem Tx_xCons {g : G D} {r : G (List D)} {Φ : List D → Env → Prop} : Tx (xCons g r) ρ Φ Ε ↔ Tx g ρ (fun d ρ1 => Tx r ρ1 (fun ds ρ2 => Φ (d :: ds) ρ2) Ε) Ε := by simp [xCons]
@[simp] theorem Tx_x2 {f : M → M → Option M} {a b : G D} : Tx (x2 f a b) ρ Φm Ε ↔ Tx a ρ (fun x ρ1 => Tx b ρ1 (fun y ρ2 => Tp (f (.dat x) (.dat y)) fun m => Φm m ρ2) Ε) Ε := by simp [x2]
@[simp] theorem Tx_xL {f : List M → Option M} {gs : G (List D)} : Tx (xL f gs) ρ Φm Ε ↔ Tx gs ρ (fun xs ρ1 => Tp (f (xs.map M.dat)) fun m => Φm m ρ1) Ε := by simp [xL]
@[simp] theorem Tx_tX {g : G D} : Tx (tX g) ρ Φb Ε ↔ Tx g ρ (fun d ρ1 => Tp (asB d) fun b => Φb b ρ1) Ε := by simp [tX]
@[simp] theorem Tx_gCallF {f : List M → Option Rr} {gs : G (List D)} : Tx (gCall false f gs) ρ Φm Ε ↔ Tx gs ρ (fun ds ρ1 => TFx f (ds.map M.dat) (fun r _ => Φm r ρ1) fun n _ => Ε n ρ1) Ε := by
  unfold gCall
  rw [Tx_bind]
  constructor <;> intro h <;> refine Tx.mono h (fun ds ρ1 q => ?_) (fun _ _ q => q) <;> unfold Tx at * <;> unfold TFx at * <;> (cases e : f (ds.map M.dat) with
    | none => rw [e] at q; exact q
    | some r => rw [e] at q; cases r <;> simp_all)
@[simp] theorem Tx_gCall {f : List M → Option Rr} {gs : G (List D)} : Tx (gCall true f gs) ρ Φm Ε ↔ Tx gs ρ (fun ds ρ1 => TF f (ds.map M.dat) fun r _ => Φm r ρ1) Ε := by
  unfold gCall
  rw [Tx_bind]
  constructor <;> intro h <;> refine Tx.mono h (fun ds ρ1 q => ?_) (fun _ _ q => q) <;> unfold Tx at * <;> unfold TF at * <;> (cases e : f (ds.map M.dat) with
    | none => rw [e] at q; exact q
    | some r => rw [e] at q; cases r <;> simp_all)
theorem Tx_meth {b : Bool} {C : Nat} {x : Str} {f : List M → Option Rr} {pf : Env → Option Pth} {gs : Env → Option (List D)} {p : Pth} {fs : List (Str × M)} {es : List D} (h1 : pf ρ = some p) (h2 : getP ρ p = some (.obj C fs)) (h3 : lookM x fs = none) (h4 : gs ρ = some es)
    (k : TFx f (.obj C fs :: es.map M.dat) (fun r m' => ∃ y, m' = some y ∧ Φm r (putP ρ p y)) fun n m' => b = false ∧ ∃ y, m' = some y ∧ Ε n (putP ρ p y)) : Tx (gMeth b C x f pf gs) ρ Φm Ε := by
  unfold TFx at k
  unfold Tx gMeth
  simp only [h1, h2, if_pos, h3, h4]
  cases e : f (.obj C fs :: es.map M.dat) with
  | none => rw [e] at k; exact k.elim
  | some r =>
    rw [e] at k
    cases r with
    | ok r m' =>
      obtain ⟨y, rfl, k⟩ := k
      exact k
    | ex n m' =>
      obtain ⟨rfl, y, rfl, k⟩ := k
      exact k
@[simp] theorem T_gTry {h : Nat → G Fl} {g : G Fl} : T (gTry h g) ρ Φ ↔ Tx g ρ Φ fun n ρ' => T (h n) ρ' Φ := by
  unfold T Tx gTry
  cases e : g ρ with
  | none => simp [e]
  | some r => cases r <;> simp [e]
@[simp] theorem T_hKinds {i k n : Nat} : T (hKinds i k n) ρ Φ ↔ Tp (kindS n) fun s => i < ρ.length ∧ Φ .nx ((ρ.set k (some (.dat (.str s)))).set i none) := by
  unfold hKinds T
  cases kindS n with
  | none => simp
  | some s =>
    simp only [Tp_some]
    split
    · rename_i a ρ' e
      split at e
      · rename_i h
        cases e
        simp [h]
      · cases e
    · rename_i h
      by_cases q : i < ρ.length
      · exact absurd (if_pos q) (h _ _)
      · simp [q]
end
theorem TFx_B {n np : Nat} {j : Option Nat} {g : G Fl} {ms : List M} {Φ : M → Option M → Prop} {Ε : Nat → Option M → Prop} (hl : ms.length = np)
    (h : Tx g (start0 n ms) (fun f ρ => match f with
      | .nx => Φ (.dat .non) (outM j ρ)
      | .rt m => Φ m (outM j ρ)
      | _ => False) fun c ρ => Ε c (outM j ρ)) : TFx (ar np (defF n j g)) ms Φ Ε := by
  unfold TFx ar
  rw [if_pos hl]
  unfold defF
  unfold Tx at h
  cases e : g (start0 n ms) with
  | none => rw [e] at h; exact h.elim
  | some r =>
    rw [e] at h
    cases r with
    | ex c ρ => exact h
    | ok f ρ => cases f <;> exact h
end Y
/-! Y: texts put behind doors (mirrors printed by gen.py, what they answer). -/
namespace Y
open PySem L2
def g_door_of : G Fl :=
 (gThen (sIf (gOf (tbOr (tB' (n2 fLt (gV 1) (cM (.dat (.int 0))))) (tbOr (tB' (n2 fGe (gV 1) (nL fLen (psCons (gV 0) psNil)))) (tbOr (tB' (n2 fLt (gV 2) (cM (.dat (.int 0))))) (tB' (n2 fGe (gV 2) (nL fLen (psCons (n2 fIdx (n2 fIdx (gV 0) (gV 1)) (cM (.dat (.int 1)))) psNil))))))))
 (fun _ => none)
 gSkip)
 (sRet (gOf (n2 fIdx (n2 fIdx (n2 fIdx (gV 0) (gV 1)) (cM (.dat (.int 1)))) (gV 2)))))
def F_door_of : List M → Option Rr := ar 3 (defF 3 none g_door_of)
theorem ni_door_of (ms : List M) (o : Rr) (h : F_door_of ms = some o) : defF 3 none g_door_of ms = some o := ar_imp (fun _ _ h => h) ms o h

def g_stretches_B1 : G Fl :=
 (gThen (sSet 10 (gView (nSl fSl (gV 6) (oAt (gV 9)) (oAt (n2 fAdd (gV 9) (nL fLen (psCons (gV 8) psNil)))))))
 (sIf (gOf (tB' (nM1 fStarts (gV 8) (gV 10))))
 (gApp (vS 7) (nTup (pCons (gV 9) (pCons (n2 fSub (nL fMin2 (psCons (n2 fAdd (gV 9) (nL fLen (psCons (gV 8) psNil))) (psCons (nL fLen (psCons (gV 2) psNil)) psNil))) (cM (.dat (.int 1)))) pNil))))
 gSkip))
def g_stretches_B2 : G Fl :=
 (sFor (xRng1 (xCons (gView (nL fLen (psCons (gV 2) psNil))) xNil)) (gTo 9)
 g_stretches_B1)
def g_stretches : G Fl :=
 (gThen (sSetT (gToTup 3 (gToCons (gTo 3) (gToCons (gTo 4) (gToCons (gTo 5) gToNil)))) (xE (gV 1)))
 (gThen (sSet 6 (gView (n2 fAdd (gV 2) (gV 5))))
 (gThen (sSetM 7 (gOf (nLst pNil)))
 (gThen (sFor (xItems (gView (n2 fAdd (gCompP (pItems (n2 fIdx (n2 fIdx (gV 0) (gV 4)) (cM (.dat (.int 1))))) (gTo 11) tbYes (n2 fIdx (gV 11) (cM (.dat (.int 0)))) [11]) (nLst (pCons (gV 5) pNil))))) (gTo 8)
 g_stretches_B2)
 (sRet (gTake 7))))))
def F_stretches : List M → Option Rr := ar 3 (defF 12 none g_stretches)
theorem ni_stretches (ms : List M) (o : Rr) (h : F_stretches ms = some o) : defF 12 none g_stretches ms = some o := ar_imp (fun _ _ h => h) ms o h

def g_escaped_places_B1 : G Fl :=
 (sIf (gOf (tB' (n2 fGt (gV 6) (gV 5))))
 (gThen (gApp (vS 4) (gV 7))
 (sSet 5 (xE (gV 7))))
 gSkip)
def g_escaped_places_K1 : G Fl :=
 (gThen (sIf (gOf (tbAnd (tB' (n2 fEq (gV 3) (cM (.dat (.str (sc "")))))) (tB' (n2 fNe (gV 4) (nLst pNil)))))
 (gRaise 26)
 gSkip)
 (sRet (gTake 4)))
def g_escaped_places : G Fl :=
 (gThen (sSet 3 (gView (n2 fIdx (n2 fIdx (gV 0) (n2 fIdx (gV 1) (cM (.dat (.int 1))))) (cM (.dat (.int 0))))))
 (gThen (sSetM 4 (gOf (gCompP (pEnum (gV 2)) (gToTup 2 (gToCons (gTo 8) (gToCons (gTo 9) gToNil))) (tB' (n2 fEq (gV 9) (gV 3))) (gV 8) [8, 9])))
 (gThen (sSet 5 (gView (n1 fNeg (cM (.dat (.int 1))))))
 (gThen (sFor (xItems (xM (gBind (xM (gCall true F_stretches (xCons (xE (gV 0)) (xCons (xE (gV 1)) (xCons (xE (gV 2)) xNil))))) fun d => gOpt (fSortP d)))) (gToTup 2 (gToCons (gTo 6) (gToCons (gTo 7) gToNil)))
 g_escaped_places_B1)
 g_escaped_places_K1))))
def F_escaped_places : List M → Option Rr := ar 3 (defF 10 none g_escaped_places)
theorem ni_escaped_places (ms : List M) (o : Rr) (h : F_escaped_places ms = some o) : defF 10 none g_escaped_places ms = some o := ar_imp (fun _ _ h => h) ms o h

def g_put_in_B1 : G Fl :=
 (gThen (sIf (gOf (tB' (n2 fIn (gV 7) (gV 5))))
 (gApp (vS 6) (n2 fIdx (n2 fIdx (gV 0) (n2 fIdx (gV 4) (cM (.dat (.int 1))))) (cM (.dat (.int 0)))))
 gSkip)
 (gApp (vS 6) (gV 8)))
def g_put_in : G Fl :=
 (gThen (sSet 4 (xM (gCall true F_door_of (xCons (xE (gV 0)) (xCons (xE (gV 1)) (xCons (xE (gV 2)) xNil))))))
 (gThen (sSet 5 (xM (gCall false F_escaped_places (xCons (xE (gV 0)) (xCons (xE (gV 4)) (xCons (xE (gV 3)) xNil))))))
 (gThen (sSetM 6 (gOf (nLst pNil)))
 (gThen (sFor (gBind (xE (gV 3)) fun d => gOpt (enumD d)) (gToTup 2 (gToCons (gTo 7) (gToCons (gTo 8) gToNil)))
 g_put_in_B1)
 (sRet (gOf (nM1 fJoin (cM (.dat (.str (sc "")))) (gV 6))))))))
def F_put_in : List M → Option Rr := ar 4 (defF 9 none g_put_in)
theorem ni_put_in (ms : List M) (o : Rr) (h : F_put_in ms = some o) : defF 9 none g_put_in ms = some o := ar_imp (fun _ _ h => h) ms o h

/-! ### what is computed -/
abbrev Iv := Nat × Nat
def ivD (a : Iv) : D := .tup [.int (a.1 : Nat), .int (a.2 : Nat)]
def escO (bk : Bk) (d : Dr) : List Nat := (rowAt bk d.2.1).1
def mks (bk : Bk) (d : Dr) : List (List Nat) := (rowAt bk d.2.1).2.map (·.1) ++ [d.2.2]
def fits1 (w m : List Nat) (i : Nat) : Bool := ((w.drop i).take m.length).isPrefixOf m
def ivs (m w : List Nat) (n : Nat) : List Iv := ((List.range n).filter (fits1 w m)).map fun i => (i, min (i + m.length) n - 1)
def ivsL (ms : List (List Nat)) (w : List Nat) (n : Nat) : List Iv := ms.flatMap fun m => ivs m w n
def escP (e t : List Nat) : List Nat := ((t.zipIdx).filter fun p => [p.1] == e).map (·.2)
def leI (a b : Iv) : Bool := decide (a.2 ≤ b.2)
def greedy : List Iv → List Nat → Int → List Nat
  | [], f, _ => f
  | a :: L, f, l => if (a.1 : Int) > l then greedy L (f ++ [a.2]) a.2 else greedy L f l
def plc (e t : List Nat) (S : List Iv) : List Nat := greedy (S.mergeSort leI) (escP e t) (-1)
def places (bk : Bk) (d : Dr) (t : List Nat) : List Nat := plc (escO bk d) t (ivsL (mks bk d) (t ++ d.2.2) t.length)
def piece (e : List Nat) (P : List Nat) (p : Nat × Nat) : List (List Nat) := if p.2 ∈ P then [e, [p.1]] else [[p.1]]
def written (e : List Nat) (P : List Nat) (t : List Nat) : List Nat := ((t.zipIdx).flatMap (piece e P)).flatten
/-- a door of the book -/
structure DrOk (bk : Bk) (d : Dr) : Prop where
  i : ∃ r ∈ bk, d ∈ r.2
theorem DrOk.in_ {bk : Bk} {d : Dr} (hg : Good bk) (h : DrOk bk d) : 0 ≤ d.2.1 ∧ d.2.1 < bk.length := by
  obtain ⟨r, hr, hd⟩ := h.i
  exact hg.z.r r hr d hd
theorem DrOk.mk1 {bk : Bk} {d : Dr} (hg : Good bk) (h : DrOk bk d) : ∀ m ∈ mks bk d, Mk1 m := by
  obtain ⟨r, hr, hd⟩ := h.i
  have hi := h.in_ hg
  have hrow := (row_in hi.1 hi.2).2
  intro m hm
  rcases List.mem_append.mp hm with z | z
  · obtain ⟨o, ho, rfl⟩ := List.mem_map.mp z
    have hk := hg.z.k _ hrow o ho
    simp [toDr] at hk
    exact ⟨(hg.z.o _ hrow o ho).1, (hg.z.o _ hrow o ho).2, hk.1⟩
  · rw [List.mem_singleton.mp z]
    have hk := hg.z.k _ hr d hd
    simp [toDr] at hk
    exact ⟨(hg.z.c _ hr d hd).1, (hg.z.c _ hr d hd).2, hk.2⟩
theorem ivs_len {m w : List Nat} {n : Nat} : (ivs m w n).length ≤ n := by
  unfold ivs
  rw [List.length_map]
  exact Nat.le_trans (List.length_filter_le _ _) (by simp)
theorem ivsL_len {w : List Nat} {n : Nat} : ∀ ms : List (List Nat), (ivsL ms w n).length ≤ ms.length * n
  | [] => by simp [ivsL]
  | m :: ms => by
    have := ivsL_len (w := w) (n := n) ms
    have h := ivs_len (m := m) (w := w) (n := n)
    show (ivs m w n ++ ivsL ms w n).length ≤ _
    rw [List.length_append, List.length_cons, Nat.succ_mul]
    omega
theorem mks_len {bk : Bk} {d : Dr} (hg : Good bk) (h : DrOk bk d) : (mks bk d).length ≤ 7 := by
  have hi := h.in_ hg
  have := hg.z.d _ (row_in hi.1 hi.2).2
  unfold mks
  simp
  omega
theorem door_of_ok {bk : Bk} {to number : Nat} {r : Row} {d : Dr} (hg : Good bk) (hr : bk[to]? = some r) (hd : r.2[number]? = some d) {Φ : M → Option M → Prop} (k : Φ (.dat (toDr d)) none) : TF F_door_of [.dat (toBk bk), .dat (.int to), .dat (.int number)] Φ := by
  have h1 := (List.getElem?_eq_some_iff.mp hr).1
  have h2 := (List.getElem?_eq_some_iff.mp hd).1
  have hn := hg.z.n
  have hrm : r ∈ bk := List.mem_of_getElem? hr
  have hl := hg.z.d r hrm
  refine TF_B rfl ?_
  simp [g_door_of, start0, toBk, toRow, atI_pos (show (0 : Int) ≤ (to : Int) by omega), atI_pos (show (0 : Int) ≤ (number : Int) by omega), hr, hd]
  exact ⟨fun z => absurd z (by omega), fun z => absurd z (by omega), fun _ => ⟨fun z => absurd z (by omega), fun z => absurd z (by omega), fun _ => k⟩⟩
theorem rng0 {n : Nat} : rngD 0 n = (List.range n).map fun i : Nat => D.int (i : Int) := by
  unfold rngD
  exact List.map_congr_left fun i _ => by simp
theorem ivsL_app {w : List Nat} {n : Nat} {a b : List (List Nat)} : ivsL (a ++ b) w n = ivsL a w n ++ ivsL b w n := List.flatMap_append
theorem ivs_snoc {m w : List Nat} {n i : Nat} {pre : List Nat} : ((pre ++ [i]).filter (fits1 w m)).map (fun i => (i, min (i + m.length) n - 1)) = (pre.filter (fits1 w m)).map (fun i => (i, min (i + m.length) n - 1)) ++ if fits1 w m i = true then [(i, min (i + m.length) n - 1)] else [] := by
  rw [List.filter_append, List.map_append]
  by_cases h : fits1 w m i = true
  · rw [if_pos h, List.filter_cons, if_pos h]; rfl
  · rw [if_neg h, List.filter_cons, if_neg h]; rfl
theorem stretches_ok {bk : Bk} {d : Dr} {t : List Nat} (hg : Good bk) (h : DrOk bk d) (ht : t.length ≤ 5000) {Φ : M → Option M → Prop} (k : Φ (.lst ((ivsL (mks bk d) (t ++ d.2.2) t.length).map (M.dat ∘ ivD))) none) : TF F_stretches [.dat (toBk bk), .dat (toDr d), .dat (.str t)] Φ := by
  have hi := h.in_ hg
  have hrow := (row_in hi.1 hi.2).1
  have hmk := h.mk1 hg
  have hml := mks_len hg h
  have hcl : d.2.2.length ≤ 4 := (hmk d.2.2 (by unfold mks; simp)).l
  refine TF_B rfl ?_
  simp [g_stretches, start0, toBk, toRow, toDr, atI_pos hi.1, hrow]
  refine ⟨by omega, Tp_of (gLcP_all (f := toDr) (h := fun o => .str o.1) fun o ho => ?_) ?_⟩
  · simp [toDr]
  have hml2 : (rowAt bk d.2.1).2.length + 1 = (mks bk d).length := by unfold mks; simp
  refine ⟨by simp; omega, by simp; omega, ?_⟩
  rw [show List.map (fun o : Dr => D.str o.1) (rowAt bk d.2.1).2 ++ [D.str d.2.2] = (mks bk d).map D.str by unfold mks; simp]
  refine T_forM (fun pre ρ => ∃ x8 x9 x10 x11, ρ = [some (.dat (.tup (bk.map toRow))), some (.dat (.tup [.str d.1, .int d.2.1, .str d.2.2])), some (.dat (.str t)), some (.dat (.str d.1)), some (.dat (.int d.2.1)), some (.dat (.str d.2.2)), some (.dat (.str (t ++ d.2.2))), some (.lst ((ivsL pre (t ++ d.2.2) t.length).map (M.dat ∘ ivD))), x8, x9, x10, x11]) ?_ ?_ ⟨_, _, _, _, rfl⟩
  · rintro pre m suf ρ e ⟨x8, x9, x10, x11, rfl⟩
    have hm := hmk m (by rw [e]; simp)
    have hm1 : 1 ≤ m.length := List.length_pos_iff.mpr hm.n
    have hpl := ivsL_len (w := t ++ d.2.2) (n := t.length) pre
    have hpm : pre.length ≤ 6 := by have := congrArg List.length e; simp at this; omega
    have hpn : (ivsL pre (t ++ d.2.2) t.length).length ≤ 30000 := Nat.le_trans hpl (Nat.le_trans (Nat.mul_le_mul hpm ht) (by omega))
    simp [g_stretches_B2, rng0]
    refine ⟨by omega, by omega, ?_⟩
    refine T_forM (fun pre2 ρ => ∃ x9 x10 x11, ρ = [some (.dat (.tup (bk.map toRow))), some (.dat (.tup [.str d.1, .int d.2.1, .str d.2.2])), some (.dat (.str t)), some (.dat (.str d.1)), some (.dat (.int d.2.1)), some (.dat (.str d.2.2)), some (.dat (.str (t ++ d.2.2))), some (.lst ((ivsL pre (t ++ d.2.2) t.length ++ ((pre2.filter (fits1 (t ++ d.2.2) m)).map fun i => (i, min (i + m.length) t.length - 1))).map (M.dat ∘ ivD))), some (.dat (.str m)), x9, x10, x11]) ?_ ?_ ?_
    · rintro pre2 i suf2 ρ e2 ⟨x9, x10, x11, rfl⟩
      have hil : i < t.length := in_range e2
      have hp2 : pre2.length ≤ t.length := by have := congrArg List.length e2; simp at this; omega
      have hfl : ((pre2.filter (fits1 (t ++ d.2.2) m))).length ≤ pre2.length := List.length_filter_le _ _
      have hcut : cutD (t ++ d.2.2) (some (i : Int)) (some ((i : Int) + (m.length : Int))) = ((t ++ d.2.2).drop i).take m.length := by
        rw [cutD_lohi (by omega) (by omega)]
        congr 1
        omega
      have hml3 := hm.l
      simp [g_stretches_B1, hcut]
      refine ⟨by omega, by omega, fun hpre => ⟨by omega, by omega, by omega, ?_⟩, fun hpre => hpre⟩
      have hf : fits1 (t ++ d.2.2) m i = true := List.isPrefixOf_iff_prefix.mpr hpre
      rw [List.filter_cons, if_pos hf]
      simp [ivD]
      split <;> omega
    · rintro ρ ⟨x9, x10, x11, rfl⟩
      exact ⟨some (.dat (.str m)), x9, x10, x11, by rw [ivsL_app]; simp [ivsL, ivs]⟩
    · exact ⟨x9, x10, x11, by simp⟩
  · rintro ρ ⟨x8, x9, x10, x11, rfl⟩
    simp
    exact k
/-! ### the places that are escaped -/
theorem pairL_map : ∀ S : List Iv, pairL (S.map ivD) = some (S.map fun a => ((a.1 : Int), (a.2 : Int)))
  | [] => rfl
  | a :: S => by
    show (match pairL (S.map ivD) with
      | some ps => some (((a.1 : Int), (a.2 : Int)) :: ps)
      | none => none) = _
    rw [pairL_map S]
    rfl
theorem sortP_ok {S : List Iv} (h : S.length ≤ 100000) : fSortP (.lst (S.map ivD)) = some (.lst ((S.mergeSort leI).map (M.dat ∘ ivD))) := by
  simp only [fSortP, pairL_map]
  rw [if_pos (by simpa using h)]
  have e : (S.map fun a : Iv => ((a.1 : Int), (a.2 : Int))).mergeSort leP = (S.mergeSort leI).map fun a => ((a.1 : Int), (a.2 : Int)) :=
    (List.map_mergeSort (f := fun a : Iv => ((a.1 : Int), (a.2 : Int))) (r := leI) (s := leP) fun a _ b _ => by simp [leI, leP]).symm
  rw [e, List.map_map]
  rfl
theorem greedy_len : ∀ (L : List Iv) (f : List Nat) (l : Int), (greedy L f l).length ≤ f.length + L.length
  | [], f, _ => Nat.le_refl _
  | a :: L, f, l => by
    unfold greedy
    split
    · have := greedy_len L (f ++ [a.2]) a.2
      simp at this ⊢
      omega
    · have := greedy_len L f l
      simp at this ⊢
      omega
theorem escP_len {e t : List Nat} : (escP e t).length ≤ t.length := by
  unfold escP
  rw [List.length_map]
  exact Nat.le_trans (List.length_filter_le _ _) (by simp)
@[simp] theorem Tx_xItems {g : G D} {ρ : Env} {Φ : List D → Env → Prop} {Ε : Nat → Env → Prop} : Tx (xItems g) ρ Φ Ε ↔ Tx g ρ (fun d ρ1 => Tp (itemsD d) fun r => Φ r ρ1) Ε := by simp [xItems]
def eD (p : Nat × Nat) : D := .tup [.int (p.2 : Nat), .str [p.1]]
theorem enumS_eq {t : List Nat} : enumS t = t.zipIdx.map eD := rfl
theorem escaped_ok {bk : Bk} {d : Dr} {t : List Nat} (hg : Good bk) (h : DrOk bk d) (ht : t.length ≤ 5000) {Φ : M → Option M → Prop} {Ε : Nat → Option M → Prop} (k1 : escO bk d = [] → places bk d t ≠ [] → Ε 26 none) (k2 : ¬ (escO bk d = [] ∧ places bk d t ≠ []) → Φ (.lst ((places bk d t).map fun n => M.dat (.int (n : Nat)))) none) : TFx F_escaped_places [.dat (toBk bk), .dat (toDr d), .dat (.str t)] Φ Ε := by
  have hi := h.in_ hg
  have hrow := (row_in hi.1 hi.2).1
  have hel := hg.z.e _ (row_in hi.1 hi.2).2
  have hsl : (ivsL (mks bk d) (t ++ d.2.2) t.length).length ≤ 35000 := Nat.le_trans (ivsL_len _) (Nat.le_trans (Nat.mul_le_mul (mks_len hg h) ht) (by omega))
  refine TFx_B rfl ?_
  simp [g_escaped_places, start0, toBk, toRow, toDr, atI_pos hi.1, hrow]
  refine Tp_of (a := enumS t) rfl ?_
  rw [enumS_eq]
  refine Tp_of (gLcP_map (f := eD) (p := fun p => [p.1] == escO bk d) (h := fun p => .int (p.2 : Nat)) fun p hp => ?_) ?_
  · simp [eD, escO]
  have hea : ((t.zipIdx.filter fun p => [p.1] == escO bk d).map fun p => D.int (p.2 : Nat)) = (escP (escO bk d) t).map fun n : Nat => D.int (n : Int) := by
    unfold escP
    rw [List.map_map]
    rfl
  have hel2 := escP_len (e := escO bk d) (t := t)
  rw [hea]
  generalize hE : escP (escO bk d) t = Es at *
  refine ⟨by simp; omega, ?_⟩
  simp
  refine stretches_ok (bk := bk) (d := d) hg h ht ?_
  simp [sortP_ok (Nat.le_trans hsl (by omega))]
  have hpl : places bk d t = greedy ((ivsL (mks bk d) (t ++ d.2.2) t.length).mergeSort leI) Es (-1) := by rw [← hE]; rfl
  have hsl2 : ((ivsL (mks bk d) (t ++ d.2.2) t.length).mergeSort leI).length ≤ 35000 := by rw [List.length_mergeSort]; exact hsl
  generalize ((ivsL (mks bk d) (t ++ d.2.2) t.length).mergeSort leI) = S at hpl hsl2
  refine T.x (T_forM (f := ivD) (fun pre ρ => ∃ suf f l x6 x7, S = pre ++ suf ∧ greedy S Es (-1) = greedy suf f l ∧ f.length ≤ Es.length + pre.length ∧ ρ = [some (.dat (.tup (bk.map toRow))), some (.dat (.tup [.str d.1, .int d.2.1, .str d.2.2])), some (.dat (.str t)), some (.dat (.str (rowAt bk d.2.1).1)), some (.lst (f.map fun n : Nat => M.dat (.int (n : Int)))), some (.dat (.int l)), x6, x7, none, none]) ?_ ?_ ?_)
  · rintro pre a suf ρ e ⟨suf', f, l, x6, x7, e2, e3, e4, rfl⟩
    have e5 : suf' = a :: suf := List.append_cancel_left (e2.symm.trans e)
    subst e5
    have hpre : pre.length ≤ 35000 := by have := congrArg List.length e; simp at this; omega
    simp [ivD, g_escaped_places_B1]
    refine ⟨fun hl => ⟨by omega, suf, e, f ++ [a.2], (a.2 : Int), ?_, by simp; omega, by simp, rfl⟩, fun hl => ⟨suf, e, f, l, ?_, by omega, rfl, rfl⟩⟩
    · rw [e3]
      conv => lhs; unfold greedy
      rw [if_pos hl]
    · rw [e3]
      conv => lhs; unfold greedy
      rw [if_neg (by omega)]
  · rintro ρ ⟨suf, f, l, x6, x7, e2, e3, e4, rfl⟩
    have e5 : suf = [] := by simpa using e2
    subst e5
    simp only [greedy] at e3
    rw [← hpl] at e3
    rw [← e3]
    simp [g_escaped_places_K1]
    have hemp : peqs (List.map (fun x : Nat => D.int (x : Int)) (places bk d t)) [] = true ↔ places bk d t = [] := by
      rw [peqs_nil]
      simp
    refine ⟨fun he => ⟨fun hp => k1 he fun z => ?_, fun hp => T.x ?_⟩, fun he => T.x ?_⟩
    · rw [hemp.mpr z] at hp
      cases hp
    · simp
      exact k2 fun z => z.2 (hemp.mp hp)
    · simp
      exact k2 fun z => he z.1
  · exact ⟨S, Es, -1, none, none, rfl, rfl, by simp, rfl⟩
theorem fIn_ints {n : Nat} {P : List Nat} : fIn (.dat (.int (n : Int))) (.dat (.lst (P.map fun n : Nat => D.int (n : Int)))) = some (.dat (.bl (decide (n ∈ P)))) := by
  have h : inD (.int (n : Int)) (P.map fun n : Nat => D.int (n : Int)) = some (decide (n ∈ P)) := by
    unfold inD
    rw [if_pos (by simp)]
    congr 1
    rw [Bool.eq_iff_iff]
    simp
    constructor
    · rintro ⟨x, hx, e⟩
      have : x = n := by omega
      rw [← this]; exact hx
    · exact fun hx => ⟨n, hx, rfl⟩
  unfold fIn fInB
  simp only [view_dat, h]
theorem pieces_len (e P : List Nat) : ∀ l : List (Nat × Nat), (l.flatMap (piece e P)).length ≤ 2 * l.length
  | [] => by simp
  | p :: l => by
    have := pieces_len e P l
    rw [List.flatMap_cons, List.length_append, List.length_cons]
    have h : (piece e P p).length ≤ 2 := by unfold piece; split <;> simp
    omega
theorem pieces_sum {e : List Nat} (he : e.length ≤ 1) (P : List Nat) : ∀ l : List (Nat × Nat), ((l.flatMap (piece e P)).map List.length).sum ≤ 2 * l.length
  | [] => by simp
  | p :: l => by
    have := pieces_sum he P l
    rw [List.flatMap_cons, List.map_append, List.sum_append, List.length_cons]
    have h : ((piece e P p).map List.length).sum ≤ 2 := by unfold piece; split <;> simp; omega
    omega
theorem joinNil : ∀ ss : List (List Nat), TL.joinL [] ss = ss.flatten
  | [] => rfl
  | [s] => by simp [TL.joinL]
  | s :: s2 :: ss => by
    have := joinNil (s2 :: ss)
    simp [TL.joinL] at this ⊢
    exact this
theorem put_in_ok {bk : Bk} {to number : Nat} {r : Row} {d : Dr} {t : List Nat} (hg : Good bk) (hr : bk[to]? = some r) (hd : r.2[number]? = some d) (ht : t.length ≤ 5000) {Φ : M → Option M → Prop} {Ε : Nat → Option M → Prop} (k1 : escO bk d = [] → places bk d t ≠ [] → Ε 26 none)
    (k2 : ¬ (escO bk d = [] ∧ places bk d t ≠ []) → Φ (.dat (.str (written (escO bk d) (places bk d t) t))) none) : TFx F_put_in [.dat (toBk bk), .dat (.int to), .dat (.int number), .dat (.str t)] Φ Ε := by
  have h : DrOk bk d := ⟨r, List.mem_of_getElem? hr, List.mem_of_getElem? hd⟩
  have hi := h.in_ hg
  have hrow := (row_in hi.1 hi.2).1
  have hel := hg.z.e _ (row_in hi.1 hi.2).2
  refine TFx_B rfl ?_
  simp [g_put_in, start0, toBk]
  refine door_of_ok hg hr hd ?_
  simp
  refine escaped_ok hg h ht k1 fun hk => ?_
  have k3 := k2 hk
  generalize places bk d t = P at k3
  simp [toDr]
  refine Tp_of (a := enumS t) rfl ?_
  rw [enumS_eq]
  refine T.x (T_forM (f := eD) (fun pre ρ => ∃ x7 x8, ρ = [some (.dat (.tup (bk.map toRow))), some (.dat (.int to)), some (.dat (.int number)), some (.dat (.str t)), some (.dat (.tup [.str d.1, .int d.2.1, .str d.2.2])), some (.dat (.lst (P.map fun n : Nat => D.int (n : Int)))), some (.lst ((pre.flatMap (piece (escO bk d) P)).map (M.dat ∘ D.str))), x7, x8]) ?_ ?_ ?_)
  · rintro pre p suf ρ e ⟨x7, x8, rfl⟩
    have hpre : pre.length ≤ t.length := by have := congrArg List.length e; simp at this; omega
    have hfl := pieces_len (escO bk d) P pre
    simp only [List.length_flatMap] at hfl
    simp [eD, g_put_in_B1, fIn_ints, toRow, atI_pos hi.1, hrow]
    refine ⟨fun hp => ⟨by omega, by omega, ?_⟩, fun hp => ⟨by omega, ?_⟩⟩
    · simp [piece, hp, escO]
    · simp [piece, hp]
  · rintro ρ ⟨x7, x8, rfl⟩
    simp
    rw [fJoin_strs (ss := t.zipIdx.flatMap (piece (escO bk d) P)) (by rw [← List.map_map]; exact dats_map _)]
    have hfl := pieces_sum (e := escO bk d) hel P t.zipIdx
    simp only [List.length_zipIdx] at hfl
    rw [if_pos (by simp only [List.length_nil, Nat.mul_zero]; omega), joinNil]
    simp
    exact k3
  · exact ⟨none, none, rfl⟩
end Y
/-! Y: what is put in is read as the text's own signs. -/
namespace Y
open PySem L2
/-! ### all that fits is hit -/
theorem greedy_sub : ∀ (L : List Iv) (f : List Nat) (l : Int), ∀ n ∈ f, n ∈ greedy L f l
  | [], f, _, n, h => h
  | a :: L, f, l, n, h => by
    unfold greedy
    split
    · exact greedy_sub L _ _ n (List.mem_append_left _ h)
    · exact greedy_sub L f l n h
theorem greedy_hit : ∀ (L : List Iv) (f : List Nat) (l : Int), L.Pairwise (fun a b => a.2 ≤ b.2) → (∀ a ∈ L, l ≤ (a.2 : Int)) → (l = -1 ∨ ∃ n ∈ f, (n : Int) = l) → ∀ a ∈ L, a.1 ≤ a.2 → ∃ p ∈ greedy L f l, a.1 ≤ p ∧ p ≤ a.2
  | [], _, _, _, _, _, a, h, _ => absurd h List.not_mem_nil
  | b :: L, f, l, hs, hl, hf, a, h, ha => by
    cases hs with
    | cons h1 h2 =>
      unfold greedy
      split
      · rename_i hc
        rcases List.mem_cons.mp h with rfl | h
        · exact ⟨a.2, greedy_sub L _ _ _ (by simp), ha, Nat.le_refl _⟩
        · exact greedy_hit L _ _ h2 (fun c hc => Int.ofNat_le.mpr (h1 c hc)) (.inr ⟨b.2, by simp, rfl⟩) a h ha
      · rename_i hc
        rcases List.mem_cons.mp h with rfl | h
        · rcases hf with rfl | ⟨n, hn, rfl⟩
          · omega
          · have := hl a List.mem_cons_self
            exact ⟨n, greedy_sub L _ _ _ hn, by omega, by omega⟩
        · exact greedy_hit L f l h2 (fun c hc => hl c (List.mem_cons_of_mem _ hc)) hf a h ha
theorem leI_sorted (S : List Iv) : (S.mergeSort leI).Pairwise (fun a b => a.2 ≤ b.2) := by
  have := List.pairwise_mergeSort (le := leI) (fun a b c h1 h2 => by simp [leI] at *; omega) (fun a b => by simp [leI]; omega) S
  exact this.imp fun h => by simpa [leI] using h
structure Hit (bk : Bk) (d : Dr) (t P : List Nat) : Prop where
  e : ∀ i, (h : i < t.length) → [t[i]] = escO bk d → i ∈ P
  h : ∀ m ∈ mks bk d, ∀ i, i < t.length → fits1 (t ++ d.2.2) m i = true → ∃ p ∈ P, i ≤ p ∧ p ≤ min (i + m.length) t.length - 1
theorem places_hit {bk : Bk} {d : Dr} {t : List Nat} (hg : Good bk) (h : DrOk bk d) : Hit bk d t (places bk d t) := by
  refine ⟨fun i hi he => greedy_sub _ _ _ _ ?_, fun m hm i hi hf => ?_⟩
  · unfold escP
    refine List.mem_map.mpr ⟨(t[i], i), List.mem_filter.mpr ⟨?_, by simp [he]⟩, rfl⟩
    rw [List.mem_zipIdx_iff_getElem?]
    exact List.getElem?_eq_getElem hi
  · have hm1 : 1 ≤ m.length := List.length_pos_iff.mpr (h.mk1 hg m hm).n
    have hmem : (i, min (i + m.length) t.length - 1) ∈ (ivsL (mks bk d) (t ++ d.2.2) t.length).mergeSort leI := by
      rw [List.mem_mergeSort]
      exact List.mem_flatMap.mpr ⟨m, hm, List.mem_map.mpr ⟨i, List.mem_filter.mpr ⟨List.mem_range.mpr hi, hf⟩, rfl⟩⟩
    exact greedy_hit _ _ (-1) (leI_sorted _) (fun a _ => by omega) (.inl rfl) _ hmem (by simp only; omega)
/-! ### marks bear no escape -/
theorem sub_one' {c : Nat} {s : List Nat} : subS [c] s = true ↔ c ∈ s := by
  unfold subS
  rw [List.any_eq_true]
  constructor
  · rintro ⟨i, hi, hp⟩
    have := List.isPrefixOf_iff_prefix.mp hp
    have h2 : c ∈ s.drop i := this.subset (by simp)
    exact List.mem_of_mem_drop h2
  · intro h
    obtain ⟨i, hi, rfl⟩ := List.mem_iff_getElem.mp h
    refine ⟨i, List.mem_range.mpr (by omega), ?_⟩
    rw [List.drop_eq_getElem_cons hi, List.isPrefixOf_cons₂]
    simp
theorem mks_esc {bk : Bk} {d : Dr} (hg : Good bk) (h : DrOk bk d) {x : Nat} (he : escO bk d = [x]) : ∀ m ∈ mks bk d, x ∉ m := by
  obtain ⟨r, hr, hd⟩ := h.i
  have hi := h.in_ hg
  have hrm := (row_in hi.1 hi.2).2
  have key := (hg.f _ hrm).e
  intro m hm hx
  have he' : (rowAt bk d.2.1).1 = [x] := he
  rcases List.mem_append.mp hm with z | z
  · obtain ⟨o, ho, rfl⟩ := List.mem_map.mp z
    have q := key _ hrm (by rw [he']; simp) o ho
    rw [he', sub_one'.mpr (by simp [hx])] at q
    cases q
  · rw [List.mem_singleton.mp z] at hx
    have q := key _ hr (by rw [he']; simp) d hd
    rw [he', sub_one'.mpr (by simp [hx])] at q
    cases q
/-! ### the text written, from its place i on -/
def wr (e P : List Nat) : Nat → List Nat → List Nat
  | _, [] => []
  | i, c :: s => (if i ∈ P then e ++ [c] else [c]) ++ wr e P (i + 1) s
theorem wr_eq (e P : List Nat) : ∀ (s : List Nat) (i : Nat), ((s.zipIdx i).flatMap (piece e P)).flatten = wr e P i s
  | [], i => rfl
  | c :: s, i => by
    rw [List.zipIdx_cons, List.flatMap_cons, List.flatten_append, wr_eq e P s (i + 1)]
    rw [show wr e P i (c :: s) = (if i ∈ P then e ++ [c] else [c]) ++ wr e P (i + 1) s from rfl]
    unfold piece
    by_cases h : i ∈ P <;> simp [h]
theorem written_eq (e P t : List Nat) : written e P t = wr e P 0 t := wr_eq e P t 0
theorem no_mark {bk : Bk} {d : Dr} {t P tail : List Nat} (hg : Good bk) (h : DrOk bk d) (hh : Hit bk d t P) (hp : escO bk d = [] → P = []) {i : Nat} (hi : i < t.length) {m : List Nat} (hm : m ∈ mks bk d) : m.isPrefixOf (wr (escO bk d) P i (t.drop i) ++ d.2.2 ++ tail) = false := by
  rw [Bool.eq_false_iff]
  intro hpre
  have hpre := List.isPrefixOf_iff_prefix.mp hpre
  have hm1 : 1 ≤ m.length := List.length_pos_iff.mpr (h.mk1 hg m hm).n
  have key : ∀ k, k ≤ m.length → i + k ≤ t.length → (∀ j, i ≤ j → j < i + k → j ∉ P) ∧ wr (escO bk d) P i (t.drop i) = (t.drop i).take k ++ wr (escO bk d) P (i + k) (t.drop (i + k)) := by
    intro k
    induction k with
    | zero => exact fun _ _ => ⟨fun j h1 h2 => by omega, by simp⟩
    | succ k ih =>
      intro h1 h2
      obtain ⟨q1, q2⟩ := ih (by omega) (by omega)
      have hlt : i + k < t.length := by omega
      have hd : t.drop (i + k) = t[i + k] :: t.drop (i + k + 1) := List.drop_eq_getElem_cons hlt
      have htk : (t.drop i).take (k + 1) = (t.drop i).take k ++ [t[i + k]] := by
        rw [List.take_add_one]
        simp [hlt]
      have hnot : i + k ∉ P := fun hin => by
        cases he : escO bk d with
        | nil => rw [hp he] at hin; simp at hin
        | cons x rest =>
          have hi' := h.in_ hg
          have hel : (escO bk d).length ≤ 1 := hg.z.e _ (row_in hi'.1 hi'.2).2
          have hr : rest = [] := by
            rw [he] at hel
            cases rest with
            | nil => rfl
            | cons _ _ => simp at hel
          subst hr
          refine mks_esc hg h he m hm ?_
          rw [q2, hd] at hpre
          unfold wr at hpre
          rw [if_pos hin, he] at hpre
          obtain ⟨z, hz⟩ := hpre
          have hk : ((t.drop i).take k).length = k := by simp; omega
          have e1 : (m ++ z)[k]? = some x := by
            rw [hz]
            simp only [List.append_assoc]
            rw [List.getElem?_append_right (by omega), hk]
            simp
          rw [List.getElem?_append_left (by omega)] at e1
          exact List.mem_of_getElem? e1
      refine ⟨fun j h3 h4 => ?_, ?_⟩
      · by_cases e : j = i + k
        · rw [e]; exact hnot
        · exact q1 j h3 (by omega)
      · rw [q2, hd, htk]
        conv => lhs; unfold wr
        rw [if_neg hnot]
        simp [Nat.add_assoc]
  obtain ⟨k1, k2⟩ := key (min m.length (t.length - i)) (by omega) (by omega)
  have hfit : fits1 (t ++ d.2.2) m i = true := by
    unfold fits1
    rw [List.isPrefixOf_iff_prefix, List.drop_append_of_le_length (by omega)]
    rw [k2] at hpre
    by_cases hc : m.length ≤ t.length - i
    · rw [Nat.min_eq_left hc] at hpre
      have hl : ((t.drop i).take m.length).length = m.length := by simp; omega
      have : m = (t.drop i).take m.length := by
        rw [List.append_assoc, List.append_assoc] at hpre
        have := List.prefix_of_prefix_length_le hpre (List.prefix_append _ _) (by omega)
        exact this.eq_of_length hl.symm
      rw [List.take_append_of_le_length (by simp; omega), ← this]
      exact List.prefix_refl _
    · rw [Nat.min_eq_right (by omega)] at hpre
      have e1 : t.drop (i + (t.length - i)) = [] := List.drop_eq_nil_of_le (by omega)
      have e2 : (t.drop i).take (t.length - i) = t.drop i := List.take_of_length_le (by simp)
      rw [e1, e2] at hpre
      simp only [wr, List.append_nil] at hpre
      refine List.prefix_of_prefix_length_le ((List.take_prefix _ _).trans (List.prefix_append _ tail)) hpre ?_
      simp
      omega
  obtain ⟨p, hp1, hp2, hp3⟩ := hh.h m hm i hi hfit
  exact k1 p hp2 (by omega) hp1
end Y
/-! Y: the steps of what is put in. -/
namespace Y
open PySem L2
def insS (to : Int) (P : List Nat) : Nat → Nat → List Nat → List D
  | _, _, [] => []
  | q, i, _ :: s => if i ∈ P then tupS q 2 (sc "escape") to 1 :: insS to P (q + 2) (i + 1) s else tupS q 1 (sc "sign") to 1 :: insS to P (q + 1) (i + 1) s
theorem fit_none {bk : Bk} {p0 : Nat} {d : Dr} {W : List Nat} {q : Nat} (h : ∀ m ∈ mks bk d, m.isPrefixOf (W.drop q) = false) : fitL bk [(p0, d.2)] W q = [] := by
  unfold fitL
  rw [List.filter_eq_nil_iff]
  intro m hm
  have hm' : m ∈ mks bk d := hm
  rw [h m hm']
  simp
theorem step_sign {bk : Bk} {p0 : Nat} {d : Dr} {W : List Nat} {q c : Nat} (hc : W[q]? = some c) (he : [c] ≠ escO bk d) (h : ∀ m ∈ mks bk d, m.isPrefixOf (W.drop q) = false) :
    stepS bk [(p0, d.2)] W q = ((tupS q 1 (sc "sign") d.2.1 1, 1), [(p0, d.2)]) := by
  unfold stepS
  rw [if_neg (fun z => he (by rw [hc] at z; exact z.2)), fit_none h, best_nil, if_pos rfl]
  rfl
theorem step_esc {bk : Bk} {p0 : Nat} {d : Dr} {W : List Nat} {q x : Nat} (hx : W[q]? = some x) (he : escO bk d = [x]) (hl : q + 1 ≠ W.length) :
    stepS bk [(p0, d.2)] W q = ((tupS q 2 (sc "escape") d.2.1 1, 2), [(p0, d.2)]) := by
  have he' : (rowAt bk (tg [(p0, d.2)])).1 = [x] := he
  unfold stepS
  rw [if_pos ⟨by rw [he']; simp, by rw [he', hx]; rfl⟩, if_neg hl]
  rfl
theorem esc_one {bk : Bk} {d : Dr} (hg : Good bk) (h : DrOk bk d) (hn : escO bk d ≠ []) : ∃ x, escO bk d = [x] := by
  have hi := h.in_ hg
  have hel : (escO bk d).length ≤ 1 := hg.z.e _ (row_in hi.1 hi.2).2
  match e : escO bk d, hn, hel with
  | [x], _, _ => exact ⟨x, rfl⟩
theorem reach_ins {bk : Bk} {p0 : Nat} {d : Dr} {t P tail W : List Nat} (hg : Good bk) (h : DrOk bk d) (hh : Hit bk d t P) (hp : escO bk d = [] → P = []) : ∀ (s : List Nat) (i q : Nat) (acc : List D), t.drop i = s → W.drop q = wr (escO bk d) P i s ++ d.2.2 ++ tail → Reach bk W [(p0, d.2)] acc q →
    Reach bk W [(p0, d.2)] (acc ++ insS d.2.1 P q i s) (q + (wr (escO bk d) P i s).length)
  | [], i, q, acc, _, _, hr => by simpa [insS, wr] using hr
  | c :: s, i, q, acc, hs, hW, hr => by
    have hi : i < t.length := by
      have := congrArg List.length hs
      simp at this
      omega
    have hcs := List.drop_eq_getElem_cons hi
    rw [hs] at hcs
    injection hcs with hc hs'
    have hnm := fun m (hm : m ∈ mks bk d) => no_mark (tail := tail) hg h hh hp hi hm
    rw [hs, ← hW] at hnm
    have hw : wr (escO bk d) P i (c :: s) = (if i ∈ P then escO bk d ++ [c] else [c]) ++ wr (escO bk d) P (i + 1) s := rfl
    have hql : q < W.length := by
      have := congrArg List.length hW
      rw [hw] at this
      by_cases z : i ∈ P <;> simp [z] at this <;> omega
    have hge : ∀ j, W[q + j]? = (W.drop q)[j]? := fun j => (List.getElem?_drop).symm
    by_cases hin : i ∈ P
    · have hne : escO bk d ≠ [] := fun z => by rw [hp z] at hin; simp at hin
      obtain ⟨x, hx⟩ := esc_one hg h hne
      rw [hw, if_pos hin, hx] at hW
      have h0 : W[q]? = some x := by
        have := hge 0
        rw [hW] at this
        simpa using this
      have hlen : q + 1 ≠ W.length := fun z => by
        have := congrArg List.length hW
        simp at this
        omega
      have hst := step_esc (p0 := p0) h0 hx hlen
      have hr2 := Reach.go hr hql
      rw [hst] at hr2
      have hW2 : W.drop (q + 2) = wr (escO bk d) P (i + 1) s ++ d.2.2 ++ tail := by
        rw [← List.drop_drop, hW]
        simp [hx]
      have ih := reach_ins hg h hh hp s (i + 1) (q + 2) _ hs'.symm hW2 hr2
      rw [hw, if_pos hin, hx]
      rw [hx] at ih
      have e1 : insS d.2.1 P q i (c :: s) = tupS q 2 (sc "escape") d.2.1 1 :: insS d.2.1 P (q + 2) (i + 1) s := by
        simp [insS, hin]
      rw [e1]
      simp only [List.append_assoc, List.singleton_append, List.length_append, List.length_cons, List.length_nil] at ih ⊢
      have e2 : q + 2 + (wr [x] P (i + 1) s).length = q + (0 + 1 + 1 + (wr [x] P (i + 1) s).length) := by omega
      rw [← e2]
      exact ih
    · rw [hw, if_neg hin] at hW
      have h0 : W[q]? = some c := by
        have := hge 0
        rw [hW] at this
        simpa using this
      have hne : [c] ≠ escO bk d := fun z => hin (hh.e i hi (by rw [← hc]; exact z))
      have hst := step_sign (p0 := p0) h0 hne hnm
      have hr2 := Reach.go hr hql
      rw [hst] at hr2
      have hW2 : W.drop (q + 1) = wr (escO bk d) P (i + 1) s ++ d.2.2 ++ tail := by
        rw [← List.drop_drop, hW]
        simp
      have ih := reach_ins hg h hh hp s (i + 1) (q + 1) _ hs'.symm hW2 hr2
      rw [hw, if_neg hin]
      have e1 : insS d.2.1 P q i (c :: s) = tupS q 1 (sc "sign") d.2.1 1 :: insS d.2.1 P (q + 1) (i + 1) s := by
        simp [insS, hin]
      rw [e1]
      simp only [List.append_assoc, List.singleton_append, List.length_append, List.length_cons, List.length_nil] at ih ⊢
      have e2 : q + 1 + (wr (escO bk d) P (i + 1) s).length = q + ((wr (escO bk d) P (i + 1) s).length + 1) := by omega
      rw [← e2]
      exact ih
/-- the close -/
theorem step_close {bk : Bk} {p0 : Nat} {d : Dr} {W tail : List Nat} {q n : Nat} (hg : Good bk) (h : DrOk bk d) (hd : DOk bk [(p0, d.2)] n) (hW : W.drop q = d.2.2 ++ tail) : stepS bk [(p0, d.2)] W q = ((tupS q d.2.2.length (sc "close") 0 0, d.2.2.length), []) := by
  have hcm : d.2.2 ∈ mks bk d := by unfold mks; simp
  have hc1 := (h.mk1 hg _ hcm).n
  have hne : ¬ ((rowAt bk (tg [(p0, d.2)])).1 ≠ [] ∧ W[q]?.toList = (rowAt bk (tg [(p0, d.2)])).1) := fun ⟨z1, z2⟩ => by
    obtain ⟨x, hx⟩ := esc_one hg h z1
    have hx' : (rowAt bk (tg [(p0, d.2)])).1 = [x] := hx
    rw [hx'] at z2
    refine mks_esc hg h hx _ hcm ?_
    cases e : d.2.2 with
    | nil => exact absurd e hc1
    | cons c rest =>
      have h0 : W[q]? = some c := by
        have := (List.getElem?_drop (xs := W) (i := q) (j := 0)).symm
        rw [hW, e] at this
        simpa using this
      rw [h0] at z2
      simp at z2
      simp [z2]
  have hcf : d.2.2 ∈ fitL bk [(p0, d.2)] W q := by
    unfold fitL
    refine List.mem_filter.mpr ⟨hcm, ?_⟩
    rw [hW, List.isPrefixOf_iff_prefix]
    exact List.prefix_append _ _
  have hfn : fitL bk [(p0, d.2)] W q ≠ [] := List.ne_nil_of_mem hcf
  obtain ⟨hb1, hb2⟩ := best_mem hfn
  have hb : best (fitL bk [(p0, d.2)] W q) = d.2.2 := by
    have hle := hb2 _ hcf
    have hbm := List.mem_filter.mp hb1
    have hbp := List.isPrefixOf_iff_prefix.mp hbm.2
    rw [hW] at hbp
    have hpre : d.2.2 <+: best (fitL bk [(p0, d.2)] W q) := List.prefix_of_prefix_length_le (List.prefix_append _ _) hbp hle
    rcases List.mem_append.mp (show best (fitL bk [(p0, d.2)] W q) ∈ mks bk d from hbm.1) with z | z
    · exfalso
      obtain ⟨o, ho, e⟩ := List.mem_map.mp z
      obtain ⟨r, hr, hdr⟩ := h.i
      have hi := h.in_ hg
      have := (hg.f r hr).p d hdr _ (row_in hi.1 hi.2).1 o ho
      rw [e, List.isPrefixOf_iff_prefix.mpr hpre] at this
      cases this
    · exact List.mem_singleton.mp z
  unfold stepS
  rw [if_neg hne, hb, if_neg hc1, if_pos (show cl? [(p0, d.2)] = some d.2.2 from rfl)]
  rfl
/-- the open -/
theorem step_open {bk : Bk} {d : Dr} {r : Row} {W : List Nat} {w : List Nat} {to dep : Int} (hg : Good bk) (hr : bk[0]? = some r) (hd : d ∈ r.2) (hW : d.1.isPrefixOf W = true) (hs : (stepS bk [] W 0).1.1 = tupS 0 d.1.length w to dep) (hw : w = sc "open") :
    (stepS bk [] W 0).1.2 = d.1.length ∧ (stepS bk [] W 0).2 = [(0, d.2)] := by
  have hr0 : rowAt bk (tg []) = r := by
    show (bk[(0 : Int).toNat]?).getD ([], []) = r
    rw [show (0 : Int).toNat = 0 from rfl, hr]
    rfl
  have hrm : r ∈ bk := List.mem_of_getElem? hr
  unfold stepS at hs ⊢
  split at hs
  · split at hs
    all_goals
      injection hs with hs
      injection hs with _ hs
      injection hs with _ hs
      injection hs with hs _
      injection hs with hs
      rw [hw] at hs
      exact absurd hs (by decide)
  · rename_i h1
    split at hs
    · injection hs with hs
      injection hs with _ hs
      injection hs with _ hs
      injection hs with hs _
      injection hs with hs
      rw [hw] at hs
      exact absurd hs (by decide)
    · rename_i h2
      split at hs
      · injection hs with hs
        injection hs with _ hs
        injection hs with _ hs
        injection hs with hs _
        injection hs with hs
        rw [hw] at hs
        exact absurd hs (by decide)
      · rename_i h3
        have hlen : (best (fitL bk [] W 0)).length = d.1.length := by
          injection hs with hs
          injection hs with _ hs
          injection hs with hs _
          injection hs with hs
          omega
        have hbp := best_pre (bk := bk) (ds := []) (t := W) (p := 0)
        rw [List.drop_zero] at hbp
        have hb : best (fitL bk [] W 0) = d.1 := pre_eq hbp hW hlen
        rw [if_neg h1, if_neg h2, if_neg h3]
        refine ⟨hlen, ?_⟩
        rw [hb]
        unfold doorOf
        rw [hr0, filter_one (opens_nodup hg hrm) hd]
        rfl
end Y
/-! Y: the fewest escapes: what the law reckons sign by sign is what the places count. -/
namespace Y
open PySem L2
theorem nodup_le : ∀ (P L : List Nat), L.Nodup → (∀ x ∈ L, x ∈ P) → L.length ≤ P.length
  | [], L, _, h => by
    cases L with
    | nil => exact Nat.le_refl _
    | cons x L => exact absurd (h x List.mem_cons_self) List.not_mem_nil
  | y :: P, L, hn, h => by
    by_cases hy : y ∈ L
    · have ih := nodup_le P (L.erase y) (hn.erase y) fun x hx => by
        have := (hn.mem_erase_iff).mp hx
        rcases List.mem_cons.mp (h x this.2) with z | z
        · exact absurd z this.1
        · exact z
      rw [List.length_erase_of_mem hy] at ih
      simp
      omega
    · have ih := nodup_le P L hn fun x hx => by
        rcases List.mem_cons.mp (h x hx) with z | z
        · rw [z] at hx; exact absurd hx hy
        · exact z
      simp
      omega
/-! ### which signs are escaped, as a list of Bools -/
def leastM (m : List Nat) (n p : Nat) : Nat := min (m.length - 1) (n - 1 - p)
def blocked (ms : List (List Nat)) (w : List Nat) (n p far : Nat) : Bool := ms.any fun m => fits1 w m p && decide (leastM m n p ≤ far)
def stB : List Bool → Nat
  | [] => 3
  | true :: _ => 0
  | false :: s => min 3 (stB s + 1)
def okB (bk : Bk) (d : Dr) (t : List Nat) (p : Nat) (b : Bool) (far : Nat) : Prop :=
  if b = true then escO bk d ≠ [] else t[p]?.toList ≠ escO bk d ∧ blocked (mks bk d) (t ++ d.2.2) t.length p far = false
def VB (bk : Bk) (d : Dr) (t : List Nat) : Nat → List Bool → Prop
  | _, [] => True
  | p, b :: s => okB bk d t p b (stB s) ∧ VB bk d t (p + 1) s
theorem stB_le : ∀ {s : List Bool} {k : Nat}, s[k]? = some true → stB s ≤ k
  | [], k, h => by simp at h
  | true :: s, k, h => Nat.zero_le _
  | false :: s, 0, h => by simp at h
  | false :: s, k + 1, h => by
    have := stB_le (s := s) (k := k) (by simpa using h)
    simp only [stB]
    omega
theorem stB_at : ∀ {s : List Bool}, stB s < 3 → s[stB s]? = some true
  | [], h => by simp [stB] at h
  | true :: s, h => by simp [stB]
  | false :: s, h => by
    have h2 : stB s < 2 := by simp only [stB] at h; omega
    have ih := stB_at (s := s) (by omega)
    have e : stB (false :: s) = stB s + 1 := by simp only [stB]; omega
    rw [e]
    simpa using ih
theorem VB.at {bk : Bk} {d : Dr} {t : List Nat} : ∀ {s : List Bool} {p : Nat}, VB bk d t p s → ∀ i (h : i < s.length), okB bk d t (p + i) s[i] (stB (s.drop (i + 1)))
  | [], p, _, i, h => by simp at h
  | b :: s, p, ⟨h1, h2⟩, 0, h => h1
  | b :: s, p, ⟨h1, h2⟩, i + 1, h => by
    have := VB.at h2 i (by simpa using h)
    rw [show p + 1 + i = p + (i + 1) by omega] at this
    exact this
/-- where the trues are -/
def trueAt (s : List Bool) : List Nat := (List.range s.length).filter fun i => s[i]? == some true
theorem trueAt_len : ∀ s : List Bool, (trueAt s).length = s.count true
  | [] => rfl
  | b :: s => by
    have ih := trueAt_len s
    unfold trueAt at ih ⊢
    rw [List.length_cons, List.range_succ_eq_map, List.filter_cons, List.filter_map]
    have e : (List.filter ((fun i => (b :: s)[i]? == some true) ∘ Nat.succ) (List.range s.length)) = (List.range s.length).filter fun i => s[i]? == some true := by
      apply List.filter_congr
      intro i hi
      simp
    rw [e]
    cases b <;> simp [ih]
theorem trueAt_nodup (s : List Bool) : (trueAt s).Nodup := List.nodup_range.filter _
theorem escP_nodup {e t : List Nat} : (escP e t).Nodup := by
  unfold escP
  have h : (t.zipIdx.map (·.2)).Nodup := by
    rw [List.zipIdx_map_snd]
    exact List.nodup_range'
  exact h.sublist (List.filter_sublist.map _)
theorem mem_escP {e t : List Nat} {i : Nat} : i ∈ escP e t ↔ ∃ h : i < t.length, [t[i]] = e := by
  unfold escP
  constructor
  · intro h
    obtain ⟨p, hp, rfl⟩ := List.mem_map.mp h
    obtain ⟨h1, h2⟩ := List.mem_filter.mp hp
    rw [List.mem_zipIdx_iff_getElem?] at h1
    obtain ⟨hi, he⟩ := List.getElem?_eq_some_iff.mp h1
    exact ⟨hi, by rw [he]; simpa using h2⟩
  · rintro ⟨hi, he⟩
    refine List.mem_map.mpr ⟨(t[i], i), List.mem_filter.mpr ⟨?_, by simp [he]⟩, rfl⟩
    rw [List.mem_zipIdx_iff_getElem?]
    exact List.getElem?_eq_getElem hi
theorem fits_in {t c m : List Nat} {i j : Nat} (hf : fits1 (t ++ c) m i = true) (hj : i ≤ j) (hj2 : j < i + m.length) (hjn : j < t.length) : t[j] ∈ m := by
  unfold fits1 at hf
  have hp := List.isPrefixOf_iff_prefix.mp hf
  refine hp.subset ?_
  have e : (((t ++ c).drop i).take m.length)[j - i]? = some t[j] := by
    rw [List.getElem?_take, if_pos (by omega), List.getElem?_drop, show i + (j - i) = j by omega, List.getElem?_append_left hjn]
    exact List.getElem?_eq_getElem hjn
  exact List.mem_of_getElem? e
/-- the least there can be -/
theorem greedy_least {T Es : List Nat} : ∀ (L : List Iv) (f : List Nat) (l : Int), (∀ a ∈ L, ∃ j, a.1 ≤ j ∧ j ≤ a.2 ∧ j ∈ T ∧ j ∉ Es) →
    ∃ ws : List Nat, (greedy L f l).length = f.length + ws.length ∧ (∀ w ∈ ws, l < (w : Int) ∧ w ∈ T ∧ w ∉ Es) ∧ ws.Nodup
  | [], f, l, _ => ⟨[], by simp [greedy], by simp, List.nodup_nil⟩
  | a :: L, f, l, h => by
    have h2 : ∀ b ∈ L, ∃ j, b.1 ≤ j ∧ j ≤ b.2 ∧ j ∈ T ∧ j ∉ Es := fun b hb => h b (List.mem_cons_of_mem _ hb)
    unfold greedy
    split
    · rename_i hc
      obtain ⟨j, j1, j2, j3, j4⟩ := h a List.mem_cons_self
      obtain ⟨ws, w1, w2, w3⟩ := greedy_least L (f ++ [a.2]) a.2 h2
      refine ⟨j :: ws, by rw [w1]; simp; omega, fun w hw => ?_, List.nodup_cons.mpr ⟨fun z => ?_, w3⟩⟩
      · rcases List.mem_cons.mp hw with rfl | hw
        · exact ⟨by omega, j3, j4⟩
        · exact ⟨by have := (w2 w hw).1; omega, (w2 w hw).2⟩
      · have := (w2 j z).1
        omega
    · exact greedy_least L f l h2
theorem least_ge {bk : Bk} {d : Dr} {t : List Nat} (hg : Good bk) (h : DrOk bk d) {s : List Bool} (hl : s.length = t.length) (hv : VB bk d t 0 s) : (places bk d t).length ≤ s.count true := by
  have hT : ∀ i, i ∈ trueAt s ↔ s[i]? = some true := fun i => by
    unfold trueAt
    rw [List.mem_filter, List.mem_range]
    simp
    intro z
    exact (List.getElem?_eq_some_iff.mp z).1
  have hit : ∀ m ∈ mks bk d, ∀ i, i < t.length → fits1 (t ++ d.2.2) m i = true → ∃ j, i ≤ j ∧ j ≤ min (i + m.length) t.length - 1 ∧ j ∈ trueAt s ∧ j ∉ escP (escO bk d) t := fun m hm i hi hf => by
    have hmk := h.mk1 hg m hm
    have hm1 : 1 ≤ m.length := List.length_pos_iff.mpr hmk.n
    have hm4 := hmk.l
    have key : ∃ j, i ≤ j ∧ j ≤ min (i + m.length) t.length - 1 ∧ j ∈ trueAt s := by
      have hok := hv.at i (by omega)
      rw [Nat.zero_add] at hok
      cases hb : s[i] with
      | true => exact ⟨i, Nat.le_refl _, by omega, (hT i).mpr (by rw [List.getElem?_eq_getElem (by omega), hb])⟩
      | false =>
        rw [hb] at hok
        unfold okB at hok
        rw [if_neg (by simp)] at hok
        have hbl := hok.2
        unfold blocked at hbl
        rw [List.any_eq_false] at hbl
        have := hbl m hm
        rw [hf] at this
        simp at this
        unfold leastM at this
        have h3 : stB (s.drop (i + 1)) < 3 := by omega
        have hat := stB_at h3
        rw [List.getElem?_drop] at hat
        exact ⟨i + 1 + stB (s.drop (i + 1)), by omega, by omega, (hT _).mpr hat⟩
    obtain ⟨j, j1, j2, j3⟩ := key
    refine ⟨j, j1, j2, j3, fun z => ?_⟩
    obtain ⟨hj, he⟩ := mem_escP.mp z
    exact mks_esc hg h he.symm m hm (fits_in hf j1 (by omega) hj)
  obtain ⟨ws, w1, w2, w3⟩ := greedy_least (T := trueAt s) (Es := escP (escO bk d) t) ((ivsL (mks bk d) (t ++ d.2.2) t.length).mergeSort leI) (escP (escO bk d) t) (-1) fun a ha => by
    rw [List.mem_mergeSort] at ha
    obtain ⟨m, hm, ha⟩ := List.mem_flatMap.mp ha
    obtain ⟨i, hi, rfl⟩ := List.mem_map.mp ha
    obtain ⟨h1, h2⟩ := List.mem_filter.mp hi
    exact hit m hm i (List.mem_range.mp h1) h2
  rw [← trueAt_len]
  refine Nat.le_trans (Nat.le_of_eq (show (places bk d t).length = (escP (escO bk d) t ++ ws).length by rw [List.length_append]; exact w1)) (nodup_le _ _ ?_ ?_)
  · rw [List.nodup_append]
    exact ⟨escP_nodup, w3, fun a ha b hb e => (w2 b hb).2.2 (e ▸ ha)⟩
  · intro x hx
    rcases List.mem_append.mp hx with z | z
    · obtain ⟨hi, he⟩ := mem_escP.mp z
      refine (hT x).mpr ?_
      have hok := hv.at x (by omega)
      rw [Nat.zero_add] at hok
      rw [List.getElem?_eq_getElem (by omega)]
      cases hb : s[x] with
      | true => rfl
      | false =>
        rw [hb] at hok
        unfold okB at hok
        rw [if_neg (by simp)] at hok
        refine absurd ?_ hok.1
        rw [List.getElem?_eq_getElem hi]
        exact he
    · exact (w2 x z).2.1
/-- the places, as a list of Bools -/
def maskP (P : List Nat) (n : Nat) : List Bool := (List.range n).map fun i => decide (i ∈ P)
theorem maskP_le {P : List Nat} {n : Nat} : (maskP P n).count true ≤ P.length := by
  unfold maskP
  rw [List.count_eq_countP, List.countP_map, List.countP_eq_length_filter]
  refine nodup_le P _ (List.nodup_range.filter _) fun x hx => ?_
  have := (List.mem_filter.mp hx).2
  simpa using this
theorem maskP_ok {bk : Bk} {d : Dr} {t P : List Nat} (hg : Good bk) (h : DrOk bk d) (hh : Hit bk d t P) (hp : escO bk d = [] → P = []) : VB bk d t 0 (maskP P t.length) := by
  have key : ∀ k p, k + p = t.length → VB bk d t p ((List.range' p k).map fun i => decide (i ∈ P)) := by
    intro k
    induction k with
    | zero => exact fun _ _ => trivial
    | succ k ih =>
      intro p hk
      rw [List.range'_succ, List.map_cons]
      refine ⟨?_, ih (p + 1) (by omega)⟩
      have hpl : p < t.length := by omega
      unfold okB
      by_cases hin : p ∈ P
      · rw [if_pos (by simpa using hin)]
        intro z
        rw [hp z] at hin
        exact absurd hin List.not_mem_nil
      · rw [if_neg (by simpa using hin)]
        refine ⟨fun z => hin (hh.e p hpl ?_), ?_⟩
        · rw [List.getElem?_eq_getElem hpl] at z
          exact z
        · unfold blocked
          rw [List.any_eq_false]
          intro m hm
          have hmk := h.mk1 hg m hm
          have hm1 : 1 ≤ m.length := List.length_pos_iff.mpr hmk.n
          simp only [Bool.and_eq_true, decide_eq_true_eq, not_and]
          intro hf hle
          obtain ⟨q, q1, q2, q3⟩ := hh.h m hm p hpl hf
          have hne : q ≠ p := fun z => hin (z ▸ q1)
          have hst : stB ((List.range' (p + 1) k).map fun i => decide (i ∈ P)) ≤ q - (p + 1) := by
            refine stB_le ?_
            rw [List.getElem?_map, List.getElem?_range' (by omega)]
            simp
            rw [show p + 1 + (q - (p + 1)) = q by omega]
            exact q1
          unfold leastM at hle
          omega
  have := key t.length 0 (by omega)
  unfold maskP
  rw [List.range_eq_range']
  exact this
/-- nothing is escaped where there is no escape -/
theorem none_ok {bk : Bk} {d : Dr} {t : List Nat} (hg : Good bk) (h : DrOk bk d) (he : escO bk d = []) (hp : places bk d t ≠ []) {s : List Bool} (hl : s.length = t.length) : ¬ VB bk d t 0 s := fun hv => by
  have hge := least_ge hg h hl hv
  have hz : s.count true = 0 := by
    rw [List.count_eq_zero]
    intro hm
    obtain ⟨i, hi, e⟩ := List.mem_iff_getElem.mp hm
    have hok := hv.at i hi
    rw [e] at hok
    unfold okB at hok
    rw [if_pos rfl] at hok
    exact hok he
  rw [hz] at hge
  exact hp (List.length_eq_zero_iff.mp (by omega))
end Y
/-! Y: the law's dict of costs. -/
namespace Y
open PySem L2
abbrev Kc := List (Nat × Nat)
def kcD (a : Nat × Nat) : D × D := (.int (a.1 : Nat), .int (a.2 : Nat))
def lookN (F : Kc) (k : Nat) : Option Nat := (F.find? fun a => a.1 == k).map (·.2)
def putN (F : Kc) (k v : Nat) : Kc := if (F.any fun a => a.1 == k) = true then F.map (fun a => if (a.1 == k) = true then (a.1, v) else a) else F ++ [(k, v)]
theorem kEq_nat {i j : Nat} : kEq (.int (i : Nat)) (.int (j : Nat)) = (i == j) := by
  rw [show (i == j) = decide (i = j) from rfl]
  exact decide_eq_decide.mpr (by omega)
theorem lookD_kc (F : Kc) (k : Nat) : lookD (F.map kcD) (.int (k : Nat)) = (lookN F k).map fun v => D.int (v : Nat) := by
  unfold lookD lookN
  rw [List.find?_map]
  have e : ((fun kv : D × D => kEq kv.1 (.int (k : Nat))) ∘ kcD) = fun a : Nat × Nat => a.1 == k := by
    funext a
    exact kEq_nat
  rw [e]
  cases F.find? fun a => a.1 == k <;> rfl
theorem putD_kc (F : Kc) (k v : Nat) : putD (F.map kcD) (.int (k : Nat)) (.int (v : Nat)) = (putN F k v).map kcD := by
  unfold putD putN
  have e : (F.map kcD).any (fun kv => kEq kv.1 (.int (k : Nat))) = F.any fun a => a.1 == k := by
    rw [List.any_map]
    congr 1
    funext a
    exact kEq_nat
  rw [e]
  split
  · rw [List.map_map, List.map_map]
    apply List.map_congr_left
    intro a _
    show (if kEq (kcD a).1 (.int (k : Nat)) = true then ((kcD a).1, D.int (v : Nat)) else kcD a) = kcD (if (a.1 == k) = true then (a.1, v) else a)
    rw [show (kcD a).1 = D.int (a.1 : Nat) from rfl, kEq_nat]
    split <;> rfl
  · rw [List.map_append]
    rfl
/-- what stands there is the least of what came -/
structure Rep (F C : Kc) : Prop where
  n : (F.map (·.1)).Nodup
  s : ∀ a ∈ F, a ∈ C
  c : ∀ a ∈ C, ∃ v, v ≤ a.2 ∧ (a.1, v) ∈ F
theorem Rep.nil : Rep [] [] := ⟨List.nodup_nil, by simp, by simp⟩
theorem lookN_some {F : Kc} (hn : (F.map (·.1)).Nodup) {k v : Nat} : lookN F k = some v ↔ (k, v) ∈ F := by
  induction F with
  | nil => simp [lookN]
  | cons a F ih =>
    rw [List.map_cons, List.nodup_cons] at hn
    have ih := ih hn.2
    unfold lookN at ih ⊢
    rw [List.find?_cons]
    by_cases h : a.1 = k
    · have hb : (a.1 == k) = true := by simpa using h
      rw [hb]
      constructor
      · intro e
        have : a.2 = v := by simpa using e
        rw [← h, ← this]
        exact List.mem_cons_self
      · intro e
        rcases List.mem_cons.mp e with z | z
        · rw [← z]; rfl
        · exact absurd (List.mem_map.mpr ⟨(k, v), z, h.symm⟩) hn.1
    · have hb : (a.1 == k) = false := by simpa using h
      rw [hb]
      constructor
      · intro e
        exact List.mem_cons_of_mem _ (ih.mp e)
      · intro e
        rcases List.mem_cons.mp e with z | z
        · rw [← z] at h; exact absurd rfl h
        · exact ih.mpr z
theorem any_key {F : Kc} {k : Nat} : (F.any fun a => a.1 == k) = true ↔ ∃ v, (k, v) ∈ F := by
  rw [List.any_eq_true]
  constructor
  · rintro ⟨a, h, e⟩
    have : a.1 = k := by simpa using e
    exact ⟨a.2, by rw [← this]; exact h⟩
  · rintro ⟨v, h⟩
    exact ⟨_, h, by simp⟩
theorem mem_map_put {F : Kc} {k v : Nat} {a : Nat × Nat} : a ∈ F.map (fun a => if (a.1 == k) = true then (a.1, v) else a) ↔ (a.1 = k ∧ a.2 = v ∧ ∃ u, (k, u) ∈ F) ∨ (a.1 ≠ k ∧ a ∈ F) := by
  rw [List.mem_map]
  constructor
  · rintro ⟨b, hb, rfl⟩
    by_cases h : b.1 = k
    · rw [if_pos (by simpa using h)]
      exact .inl ⟨h, rfl, b.2, by rw [← h]; exact hb⟩
    · rw [if_neg (by simpa using h)]
      exact .inr ⟨h, hb⟩
  · rintro (⟨h1, h2, u, hu⟩ | ⟨h1, h2⟩)
    · refine ⟨_, hu, ?_⟩
      rw [if_pos (by simp)]
      exact Prod.ext h1.symm h2.symm
    · exact ⟨a, h2, by rw [if_neg (by simpa using h1)]⟩
/-- min(further.get(k, v), v) put at k -/
theorem Rep.put {F C : Kc} (h : Rep F C) (k v : Nat) : Rep (putN F k (min ((lookN F k).getD v) v)) (C ++ [(k, v)]) := by
  unfold putN
  by_cases ha : (F.any fun a => a.1 == k) = true
  · rw [if_pos ha]
    obtain ⟨u, hu⟩ := any_key.mp ha
    have hlu : lookN F k = some u := (lookN_some h.n).mpr hu
    rw [hlu]
    show Rep (F.map fun a => if (a.1 == k) = true then (a.1, min u v) else a) _
    refine ⟨?_, fun a hm => ?_, fun a hm => ?_⟩
    · rw [List.map_map]
      have e : ((fun x : Nat × Nat => x.1) ∘ fun a : Nat × Nat => if (a.1 == k) = true then (a.1, min u v) else a) = fun a => a.1 := by
        funext a
        show (if (a.1 == k) = true then (a.1, min u v) else a).1 = a.1
        split <;> rfl
      rw [e]
      exact h.n
    · rcases mem_map_put.mp hm with ⟨h1, h2, _⟩ | ⟨h1, h2⟩
      · by_cases hle : u ≤ v
        · have : a = (k, u) := Prod.ext h1 (by rw [h2]; exact Nat.min_eq_left hle)
          rw [this]
          exact List.mem_append_left _ (h.s _ hu)
        · have : a = (k, v) := Prod.ext h1 (by rw [h2]; exact Nat.min_eq_right (by omega))
          rw [this]
          simp
      · exact List.mem_append_left _ (h.s _ h2)
    · skip
      rcases List.mem_append.mp hm with z | z
      · obtain ⟨w, hw, hwm⟩ := h.c a z
        by_cases hk : a.1 = k
        · have : w = u := by
            have := (lookN_some h.n).mpr hwm
            rw [hk, hlu] at this
            exact (Option.some.inj this).symm
          subst this
          exact ⟨min w v, Nat.le_trans (Nat.min_le_left _ _) hw, mem_map_put.mpr (.inl ⟨hk, rfl, w, hu⟩)⟩
        · exact ⟨w, hw, mem_map_put.mpr (.inr ⟨hk, hwm⟩)⟩
      · rw [List.mem_singleton.mp z]
        exact ⟨min u v, Nat.min_le_right _ _, mem_map_put.mpr (.inl ⟨rfl, rfl, u, hu⟩)⟩
  · rw [if_neg ha]
    have hno : ∀ u, (k, u) ∉ F := fun u hu => ha (any_key.mpr ⟨u, hu⟩)
    have hlu : lookN F k = none := by
      cases e : lookN F k with
      | none => rfl
      | some u => exact absurd ((lookN_some h.n).mp e) (hno u)
    rw [hlu]
    show Rep (F ++ [(k, min v v)]) _
    rw [Nat.min_self]
    refine ⟨?_, fun a hm => ?_, fun a hm => ?_⟩
    · rw [List.map_append, List.nodup_append]
      refine ⟨h.n, by simp, fun a ha b hb e => ?_⟩
      simp at hb
      obtain ⟨x, hx, rfl⟩ := List.mem_map.mp ha
      exact hno x.2 (by rw [← hb, ← e]; exact hx)
    · rcases List.mem_append.mp hm with z | z
      · exact List.mem_append_left _ (h.s _ z)
      · exact List.mem_append_right _ z
    · rcases List.mem_append.mp hm with z | z
      · obtain ⟨w, hw, hwm⟩ := h.c a z
        exact ⟨w, hw, List.mem_append_left _ hwm⟩
      · rw [List.mem_singleton.mp z]
        exact ⟨v, Nat.le_refl _, by simp⟩
/-! ### what the costs tell -/
structure SemK (bk : Bk) (d : Dr) (t : List Nat) (p : Nat) (F : Kc) : Prop where
  n : (F.map (·.1)).Nodup
  s : ∀ a ∈ F, ∃ s : List Bool, s.length = t.length - p ∧ VB bk d t p s ∧ stB s = a.1 ∧ s.count true = a.2
  c : ∀ s : List Bool, s.length = t.length - p → VB bk d t p s → ∃ v, v ≤ s.count true ∧ (stB s, v) ∈ F
theorem SemK.start {bk : Bk} {d : Dr} {t : List Nat} : SemK bk d t t.length [(3, 0)] := by
  refine ⟨by simp, fun a ha => ?_, fun s hs hv => ?_⟩
  · rw [List.mem_singleton.mp ha]
    exact ⟨[], by simp, trivial, rfl, rfl⟩
  · have : s = [] := List.length_eq_zero_iff.mp (by omega)
    subst this
    exact ⟨0, Nat.le_refl _, by simp [stB]⟩
def freeAt (bk : Bk) (d : Dr) (t : List Nat) (p far : Nat) : Bool := decide (t[p]?.toList ≠ escO bk d) && !blocked (mks bk d) (t ++ d.2.2) t.length p far
def candK (bk : Bk) (d : Dr) (t : List Nat) (p : Nat) (a : Nat × Nat) : Kc := (if escO bk d ≠ [] then [(0, a.2 + 1)] else []) ++ (if freeAt bk d t p a.1 = true then [(min 3 (a.1 + 1), a.2)] else [])
theorem SemK.step {bk : Bk} {d : Dr} {t : List Nat} {p : Nat} {F G : Kc} (hp : p < t.length) (h : SemK bk d t (p + 1) F) (r : Rep G (F.flatMap (candK bk d t p))) : SemK bk d t p G := by
  refine ⟨r.n, fun a ha => ?_, fun s hs hv => ?_⟩
  · obtain ⟨b, hb, hab⟩ := List.mem_flatMap.mp (r.s a ha)
    obtain ⟨s, s1, s2, s3, s4⟩ := h.s b hb
    rcases List.mem_append.mp hab with z | z
    · by_cases he : escO bk d ≠ []
      · rw [if_pos he] at z
        rw [List.mem_singleton.mp z]
        refine ⟨true :: s, by simp; omega, ⟨?_, s2⟩, rfl, by simp [s4]⟩
        unfold okB
        rw [if_pos rfl]
        exact he
      · rw [if_neg he] at z
        exact absurd z List.not_mem_nil
    · by_cases hf : freeAt bk d t p b.1 = true
      · rw [if_pos hf] at z
        rw [List.mem_singleton.mp z]
        unfold freeAt at hf
        rw [Bool.and_eq_true] at hf
        refine ⟨false :: s, by simp; omega, ⟨?_, s2⟩, by simp [stB, s3], by simp [s4]⟩
        unfold okB
        rw [if_neg (by simp), s3]
        exact ⟨of_decide_eq_true hf.1, by simpa using hf.2⟩
      · rw [if_neg hf] at z
        exact absurd z List.not_mem_nil
  · cases s with
    | nil => simp at hs; omega
    | cons b s =>
      obtain ⟨h1, h2⟩ := hv
      obtain ⟨v, hv1, hv2⟩ := h.c s (by simp at hs; omega) h2
      cases b with
      | true =>
        unfold okB at h1
        rw [if_pos rfl] at h1
        have hm : (0, v + 1) ∈ F.flatMap (candK bk d t p) := List.mem_flatMap.mpr ⟨_, hv2, List.mem_append_left _ (by rw [if_pos h1]; simp)⟩
        obtain ⟨u, hu1, hu2⟩ := r.c _ hm
        exact ⟨u, by simp at hu1 ⊢; omega, hu2⟩
      | false =>
        unfold okB at h1
        rw [if_neg (by simp)] at h1
        have hf : freeAt bk d t p (stB s) = true := by
          unfold freeAt
          rw [Bool.and_eq_true]
          exact ⟨decide_eq_true h1.1, by rw [h1.2]; rfl⟩
        have hm : (min 3 (stB s + 1), v) ∈ F.flatMap (candK bk d t p) := List.mem_flatMap.mpr ⟨_, hv2, List.mem_append_right _ (by rw [if_pos hf]; simp)⟩
        obtain ⟨u, hu1, hu2⟩ := r.c _ hm
        exact ⟨u, by simp at hu1 ⊢; omega, hu2⟩
/-- as many as the places -/
theorem SemK.due {bk : Bk} {d : Dr} {t : List Nat} {F : Kc} (hg : Good bk) (h : DrOk bk d) (hs : SemK bk d t 0 F) : (F = [] ↔ escO bk d = [] ∧ places bk d t ≠ []) ∧ (F ≠ [] → (∃ a ∈ F, a.2 = (places bk d t).length) ∧ (∀ a ∈ F, (places bk d t).length ≤ a.2) ∧ (maskP (places bk d t) t.length).count true = (places bk d t).length) := by
  have low : ∀ a ∈ F, (places bk d t).length ≤ a.2 := fun a ha => by
    obtain ⟨s, s1, s2, s3, s4⟩ := hs.s a ha
    rw [← s4]
    exact least_ge hg h (by omega) s2
  have good : ¬ (escO bk d = [] ∧ places bk d t ≠ []) → ∃ a ∈ F, a.2 ≤ (maskP (places bk d t) t.length).count true := fun hn => by
    have hv := maskP_ok hg h (places_hit (t := t) hg h) fun z => by
      by_cases q : places bk d t = []
      · exact q
      · exact absurd ⟨z, q⟩ hn
    obtain ⟨v, v1, v2⟩ := hs.c _ (by simp [maskP]) hv
    exact ⟨_, v2, v1⟩
  have hm := maskP_le (P := places bk d t) (n := t.length)
  refine ⟨⟨fun e => ?_, fun ⟨e1, e2⟩ => ?_⟩, fun hne => ?_⟩
  · by_cases q : escO bk d = [] ∧ places bk d t ≠ []
    · exact q
    · obtain ⟨a, ha, _⟩ := good q
      rw [e] at ha
      exact absurd ha List.not_mem_nil
  · cases F with
    | nil => rfl
    | cons a F =>
      obtain ⟨s, s1, s2, s3, s4⟩ := hs.s a List.mem_cons_self
      exact absurd s2 (none_ok hg h e1 e2 (by omega))
  · have q : ¬ (escO bk d = [] ∧ places bk d t ≠ []) := fun ⟨e1, e2⟩ => by
      cases F with
      | nil => exact hne rfl
      | cons a F =>
        obtain ⟨s, s1, s2, s3, s4⟩ := hs.s a List.mem_cons_self
        exact none_ok hg h e1 e2 (by omega) s2
    obtain ⟨a, ha, hle⟩ := good q
    have := low a ha
    exact ⟨⟨a, ha, by omega⟩, low, by omega⟩
end Y
/-! k14: the law's mirrors (printed by gen.py), and that it answers True -/
namespace Y
open PySem L2
def g_fewest_escapes : G Fl :=
 (sRet (xL fLen (xCons (xM (gCall false F_escaped_places (xCons (xE (gV 0)) (xCons (xM (gCall true F_door_of (xCons (xE (gV 0)) (xCons (xE (gV 1)) (xCons (xE (gV 2)) xNil))))) (xCons (xE (gV 3)) xNil))))) xNil)))
def F_fewest_escapes : List M → Option Rr := ar 4 (defF 4 none g_fewest_escapes)
theorem ni_fewest_escapes (ms : List M) (o : Rr) (h : F_fewest_escapes ms = some o) : defF 4 none g_fewest_escapes ms = some o := ar_imp (fun _ _ h => h) ms o h

def g_law_door_B1 : G Fl :=
 (sSet 2 (gView (n2 fAdd (gV 2) (gCompP (pRng1 (pCons (nL fLen (psCons (n2 fIdx (n2 fIdx (gV 1) (gV 3)) (cM (.dat (.int 1)))) psNil)) pNil)) (gTo 4) tbYes (nTup (pCons (gV 3) (pCons (gV 4) pNil))) [4]))))
def g_law_door_K1 : G Fl :=
 (gThen (sIf (gOf (tB' (n2 fEq (gV 2) (nLst pNil))))
 (sRet (gOf (cM (.dat .non))))
 gSkip)
 (sRet (x2 fIdx (xE (gV 2)) (xM (gCallS true 0 F_law_take (gHere 0 (xCons (gView (nL fLen (psCons (gV 2) psNil))) xNil)))))))
def g_law_door : G Fl :=
 (gThen (sSet 2 (gView (nLst pNil)))
 (gThen (sFor (xRng1 (xCons (gView (nL fLen (psCons (gV 1) psNil))) xNil)) (gTo 3)
 g_law_door_B1)
 g_law_door_K1))
def F_law_door : List M → Option Rr := ar 2 (defF 5 (some 0) g_law_door)
theorem ni_law_door (ms : List M) (o : Rr) (h : F_law_door ms = some o) : defF 5 (some 0) g_law_door ms = some o := ar_imp (fun _ _ h => h) ms o h

def g_law_inside : G Fl :=
 (gThen (sSetT (gToTup 3 (gToCons (gTo 2) (gToCons (gTo 3) (gToCons (gTo 4) gToNil)))) (xE (gV 1)))
 (sRet (xLst (xCons (gView (n2 fIdx (n2 fIdx (gV 0) (gV 3)) (cM (.dat (.int 0))))) (xCons (gView (n2 fAdd (gCompP (pItems (n2 fIdx (n2 fIdx (gV 0) (gV 3)) (cM (.dat (.int 1))))) (gTo 5) tbYes (n2 fIdx (gV 5) (cM (.dat (.int 0)))) [5]) (nLst (pCons (gV 4) pNil)))) xNil)))))
def F_law_inside : List M → Option Rr := ar 2 (defF 6 none g_law_inside)
theorem ni_law_inside (ms : List M) (o : Rr) (h : F_law_inside ms = some o) : defF 6 none g_law_inside ms = some o := ar_imp (fun _ _ h => h) ms o h

def g_law_own_text_B1 : G Fl :=
 (sSet 5 (xM (x2 fAdd (xE (gV 5)) (xM (x2 fIdx (gView (n2 fAdd (gV 4) (nLst (pCons (cM (.dat (.str (sc "x")))) (pCons (cM (.dat (.str (sc " ")))) (pCons (gV 3) pNil)))))) (xM (gCallS true 0 F_law_take (gHere 0 (xCons (gView (n2 fAdd (nL fLen (psCons (gV 4) psNil)) (cM (.dat (.int 3))))) xNil)))))))))
def g_law_own_text_K1 : G Fl :=
 (gThen (sSet 7 (xM (x2 fIdx (xE (gV 4)) (xM (gCallS true 0 F_law_take (gHere 0 (xCons (gView (nL fLen (psCons (gV 4) psNil))) xNil)))))))
 (sRet (x2 fAdd (xE (gV 5)) (xM (xSlX fSl (xE (gV 7)) xoNo (xoAt (xM (gCallS true 0 F_law_take (gHere 0 (xCons (gView (n2 fAdd (nL fLen (psCons (gV 7) psNil)) (cM (.dat (.int 1))))) xNil))))))))))
def g_law_own_text : G Fl :=
 (gThen (sSetT (gToLst 2 (gToCons (gTo 3) (gToCons (gTo 4) gToNil))) (xM (gCall true F_law_inside (xCons (xE (gV 1)) (xCons (xE (gV 2)) xNil)))))
 (gThen (sSet 5 (xM (gCallS true 0 F_law_text (gHere 0 (xCons (xE (gV 1)) (xCons (gView (cM (.dat (.int 10)))) xNil))))))
 (gThen (sFor (xRng1 (xCons (xM (gCallS true 0 F_law_take (gHere 0 (xCons (gView (cM (.dat (.int 8)))) xNil)))) xNil)) (gTo 6)
 g_law_own_text_B1)
 g_law_own_text_K1)))
def F_law_own_text : List M → Option Rr := ar 3 (defF 8 (some 0) g_law_own_text)
theorem ni_law_own_text (ms : List M) (o : Rr) (h : F_law_own_text ms = some o) : defF 8 (some 0) g_law_own_text ms = some o := ar_imp (fun _ _ h => h) ms o h

def g_law_fewest_B1 : G Fl :=
 (gThen (sSet 12 (gView (nSl fSl (gV 5) (oAt (gV 7)) (oAt (n2 fAdd (gV 7) (nL fLen (psCons (gV 11) psNil)))))))
 (gThen (sSet 13 (gView (nL fMin2 (psCons (n2 fSub (nL fLen (psCons (gV 11) psNil)) (cM (.dat (.int 1)))) (psCons (n2 fSub (n2 fSub (nL fLen (psCons (gV 2) psNil)) (cM (.dat (.int 1)))) (gV 7)) psNil)))))
 (sIf (gOf (tbAnd (tB' (n2 fEq (nSl fSl (gV 11) oNo (oAt (nL fLen (psCons (gV 12) psNil)))) (gV 12))) (tB' (n2 fGe (gV 9) (gV 13)))))
 (sSet 10 (gView (cM (.dat (.bl false)))))
 gSkip)))
def g_law_fewest_K1 : G Fl :=
 (gThen (sIf (gOf (tB' (n2 fNe (gV 3) (cM (.dat (.str (sc "")))))))
 (gDPut (gView (nL fMin2 (psCons (nDGet2 (gV 8) (cM (.dat (.int 0))) (n2 fAdd (nDGet (gV 6) (gV 9)) (cM (.dat (.int 1))))) (psCons (n2 fAdd (nDGet (gV 6) (gV 9)) (cM (.dat (.int 1)))) psNil)))) (vS 8) (cM (.dat (.int 0))))
 gSkip)
 (sIf (gOf (tB' (gV 10)))
 (gThen (sSet 14 (gView (nL fMin2 (psCons (cM (.dat (.int 3))) (psCons (n2 fAdd (gV 9) (cM (.dat (.int 1)))) psNil)))))
 (gDPut (gView (nL fMin2 (psCons (nDGet2 (gV 8) (gV 14) (nDGet (gV 6) (gV 9))) (psCons (nDGet (gV 6) (gV 9)) psNil)))) (vS 8) (gV 14)))
 gSkip))
def g_law_fewest_B2 : G Fl :=
 (gThen (sSet 10 (gView (n2 fNe (n2 fIdx (gV 2) (gV 7)) (gV 3))))
 (gThen (sFor (xItems (xE (gV 4))) (gTo 11)
 g_law_fewest_B1)
 g_law_fewest_K1))
def g_law_fewest_K2 : G Fl :=
 (sSet 6 (gFrz 8))
def g_law_fewest_B3 : G Fl :=
 (gThen (sSetM 8 (gOf (cM (.dic []))))
 (gThen (gCalm (sFor (gOf (gDK (gV 6))) (gTo 9)
 g_law_fewest_B2))
 g_law_fewest_K2))
def g_law_fewest_K3 : G Fl :=
 (gThen (sIf (gOf (tB' (n2 fEqE (gV 6) (cM (.dic [])))))
 (sRet (gOf (cM (.dat .non))))
 gSkip)
 (sRet (gOf (nL fMinL (psCons (gCompP (gDK (gV 6)) (gTo 9) tbYes (nDGet (gV 6) (gV 9)) [9]) psNil)))))
def g_law_fewest : G Fl :=
 (gThen (sSetT (gToLst 2 (gToCons (gTo 3) (gToCons (gTo 4) gToNil))) (xM (gCall true F_law_inside (xCons (xE (gV 0)) (xCons (xE (gV 1)) xNil)))))
 (gThen (sSet 5 (gView (n2 fAdd (gV 2) (n2 fIdx (gV 1) (cM (.dat (.int 2)))))))
 (gThen (sSet 6 (gView (nDisp1 (cM (.dat (.int 3))) (cM (.dat (.int 0))))))
 (gThen (sFor (xItems (gView (n1 fRev (n1 fLRg1 (nL fLen (psCons (gV 2) psNil)))))) (gTo 7)
 g_law_fewest_B3)
 g_law_fewest_K3))))
def F_law_fewest : List M → Option Rr := ar 3 (defF 15 none g_law_fewest)
theorem ni_law_fewest (ms : List M) (o : Rr) (h : F_law_fewest ms = some o) : defF 15 none g_law_fewest ms = some o := ar_imp (fun _ _ h => h) ms o h

def g_law_unput_B1 : G Fl :=
 (gThen (sSet 11 (gView (nSl fSl (gV 6) (oAt (gV 8)) (oAt (n2 fAdd (gV 8) (nL fLen (psCons (gV 10) psNil)))))))
 (sIf (gOf (tB' (n2 fEq (nSl fSl (gV 10) oNo (oAt (nL fLen (psCons (gV 11) psNil)))) (gV 11))))
 (sRet (gOf (cM (.dat .non))))
 gSkip))
def g_law_unput_K1 : G Fl :=
 (gThen (sSet 7 (gView (n2 fAdd (gV 7) (n2 fIdx (gV 2) (gV 8)))))
 (sSet 8 (gView (n2 fAdd (gV 8) (cM (.dat (.int 1)))))))
def g_law_unput_B2 : G Fl :=
 (sIf (gOf (tbAnd (tB' (n2 fNe (gV 4) (cM (.dat (.str (sc "")))))) (tB' (n2 fEq (n2 fIdx (gV 2) (gV 8)) (gV 4)))))
 (gThen (sIf (gOf (tB' (n2 fGe (n2 fAdd (gV 8) (cM (.dat (.int 1)))) (nL fLen (psCons (gV 2) psNil)))))
 (sRet (gOf (cM (.dat .non))))
 gSkip)
 (gThen (sSet 7 (gView (n2 fAdd (gV 7) (n2 fIdx (gV 2) (n2 fAdd (gV 8) (cM (.dat (.int 1))))))))
 (gThen (sSet 8 (gView (n2 fAdd (gV 8) (cM (.dat (.int 2))))))
 (sSet 9 (gView (n2 fAdd (gV 9) (cM (.dat (.int 1)))))))))
 (gThen (sFor (xItems (xE (gV 5))) (gTo 10)
 g_law_unput_B1)
 g_law_unput_K1))
def g_law_unput_K2 : G Fl :=
 (gThen (sIf (gOf (tB' (n2 fNe (gV 7) (gV 3))))
 (sRet (gOf (cM (.dat .non))))
 gSkip)
 (sRet (mE (xE (gV 9)))))
def g_law_unput : G Fl :=
 (gThen (sSetT (gToLst 2 (gToCons (gTo 4) (gToCons (gTo 5) gToNil))) (xM (gCall true F_law_inside (xCons (xE (gV 0)) (xCons (xE (gV 1)) xNil)))))
 (gThen (sSet 6 (gView (n2 fAdd (gV 2) (n2 fIdx (gV 1) (cM (.dat (.int 2)))))))
 (gThen (sSet 7 (gView (cM (.dat (.str (sc ""))))))
 (gThen (sSet 8 (gView (cM (.dat (.int 0)))))
 (gThen (sSet 9 (gView (cM (.dat (.int 0)))))
 (gThen (gWhile (gOf (tB' (n2 fLt (gV 8) (nL fLen (psCons (gV 2) psNil)))))
 g_law_unput_B2 1000000)
 g_law_unput_K2))))))
def F_law_unput : List M → Option Rr := ar 4 (defF 12 none g_law_unput)
theorem ni_law_unput (ms : List M) (o : Rr) (h : F_law_unput ms = some o) : defF 12 none g_law_unput ms = some o := ar_imp (fun _ _ h => h) ms o h

def g_law_tried : G Fl :=
 (gThen (sSet 4 (gView (cM (.dat (.str (sc ""))))))
 (gThen (sSet 5 (gView (cM (.dat .non))))
 (gThen (gTry (hKinds 6 4)
 (sIf (gOf (tB' (n2 fEq (gV 0) (cM (.dat (.int 0))))))
 (sSet 5 (xM (gCall false F_put_in (xCons (xE (gV 1)) (xCons (gView (n2 fIdx (gV 2) (cM (.dat (.int 0))))) (xCons (gView (n2 fIdx (gV 2) (cM (.dat (.int 1))))) (xCons (xE (gV 3)) xNil)))))))
 (sSet 5 (xM (gCall false F_fewest_escapes (xCons (xE (gV 1)) (xCons (gView (n2 fIdx (gV 2) (cM (.dat (.int 0))))) (xCons (gView (n2 fIdx (gV 2) (cM (.dat (.int 1))))) (xCons (xE (gV 3)) xNil)))))))))
 (sRet (gOf (nLst (pCons (gV 4) (pCons (gV 5) pNil))))))))
def F_law_tried : List M → Option Rr := ar 4 (defF 7 none g_law_tried)
theorem ni_law_tried (ms : List M) (o : Rr) (h : F_law_tried ms = some o) : defF 7 none g_law_tried ms = some o := ar_imp (fun _ _ h => h) ms o h

def g_law_B1 : G Fl :=
 (gThen (sSet 8 (xM (gCall true F_law_fewest (xCons (xE (gV 3)) (xCons (xE (gV 5)) (xCons (xE (gV 7)) xNil))))))
 (gThen (sSet 9 (xM (gComp (xRng1 (xCons (gView (cM (.dat (.int 2)))) xNil)) (gTo 11) tYesX (xM (gCall true F_law_tried (xCons (xE (gV 11)) (xCons (xE (gV 3)) (xCons (xE (gV 4)) (xCons (xE (gV 7)) xNil)))))) [11])))
 (sIf (gOf (tB' (n2 fIsN (gV 8) (cM (.dat .non)))))
 (sIf (tX (xM (x2 fNe (xE (gV 9)) (xM (x2 fMul (xM (xLst (xCons (gView (nLst (pCons (cM (.dat (.str (sc "NoWay+")))) (pCons (cM (.dat .non)) pNil)))) xNil))) (gView (cM (.dat (.int 2)))))))))
 (sRet (gOf (cM (.dat (.bl false)))))
 gSkip)
 (gThen (sIf (gOf (tbOr (tB' (n2 fNe (n2 fIdx (gV 9) (cM (.dat (.int 1)))) (nLst (pCons (cM (.dat (.str (sc "")))) (pCons (gV 8) pNil))))) (tbOr (tB' (n2 fNe (n2 fIdx (n2 fIdx (gV 9) (cM (.dat (.int 0)))) (cM (.dat (.int 0)))) (cM (.dat (.str (sc "")))))) (tbNot (tB' (nIsi "str" (n2 fIdx (n2 fIdx (gV 9) (cM (.dat (.int 0)))) (cM (.dat (.int 1))))))))))
 (sRet (gOf (cM (.dat (.bl false)))))
 gSkip)
 (sIf (tX (xM (x2 fNe (xM (gCall true F_law_unput (xCons (xE (gV 3)) (xCons (xE (gV 5)) (xCons (gView (n2 fIdx (n2 fIdx (gV 9) (cM (.dat (.int 0)))) (cM (.dat (.int 1))))) (xCons (xE (gV 7)) xNil)))))) (xE (gV 8)))))
 (sRet (gOf (cM (.dat (.bl false)))))
 gSkip)))))
def g_law_B2 : G Fl :=
 (gThen (sSetM 2 (gCall true F_law_bag (xCons (xE (gV 0)) (xCons (xE (gV 1)) xNil))))
 (gThen (sSet 3 (xM (gCallS true 0 F_law_book (gHere 2 xNil))))
 (gThen (sSet 4 (xM (gCallS true 0 F_law_door (gHere 2 (xCons (xE (gV 3)) xNil)))))
 (sIf (gOf (tB' (n2 fNotN (gV 4) (cM (.dat .non)))))
 (gThen (sSet 5 (gView (n2 fIdx (n2 fIdx (n2 fIdx (gV 3) (n2 fIdx (gV 4) (cM (.dat (.int 0))))) (cM (.dat (.int 1)))) (n2 fIdx (gV 4) (cM (.dat (.int 1)))))))
 (gThen (sSet 6 (xM (gComp (xRng1 (xCons (xM (x2 fAdd (gView (cM (.dat (.int 2)))) (xM (x2 fMul (gView (cM (.dat (.int 20)))) (xM (xL fInt (xCons (xM (x2 fEq (xM (gCallS true 0 F_law_take (gHere 2 (xCons (gView (cM (.dat (.int 6)))) xNil)))) (gView (cM (.dat (.int 0)))))) xNil))))))) xNil)) (gTo 10) tYesX (xM (gCallS true 0 F_law_own_text (gHere 2 (xCons (xE (gV 3)) (xCons (xE (gV 5)) xNil))))) [10])))
 (sFor (xItems (xM (xLst (xCons (gView (cM (.dat (.str (sc ""))))) (xCons (xM (gCallS true 0 F_law_own_text (gHere 2 (xCons (xE (gV 3)) (xCons (xE (gV 5)) xNil))))) (xCons (gView (nM1 fJoin (cM (.dat (.str (sc "")))) (gV 6))) xNil)))))) (gTo 7)
 g_law_B1)))
 gSkip))))
def g_law : G Fl :=
 (gThen (sFor (xRng1 (xCons (gView (n2 fAdd (nL fMin2 (psCons (nL fLen (psCons (gV 0) psNil)) (psCons (cM (.dat (.int 30))) psNil))) (cM (.dat (.int 2))))) xNil)) (gTo 1)
 g_law_B2)
 (sRet (gOf (cM (.dat (.bl true))))))
def F_law : List M → Option Rr := ar 1 (defF 12 none g_law)
theorem ni_law (ms : List M) (o : Rr) (h : F_law ms = some o) : defF 12 none g_law ms = some o := ar_imp (fun _ _ h => h) ms o h

/-! ### what can be read within a door -/
theorem inside_ok {bk : Bk} {d : Dr} (hg : Good bk) (h : DrOk bk d) {Φ : M → Option M → Prop} (k : Φ (.lst [.dat (.str (escO bk d)), .dat (.lst ((mks bk d).map D.str))]) none) : TF F_law_inside [.dat (toBk bk), .dat (toDr d)] Φ := by
  have hi := h.in_ hg
  have hrow := (row_in hi.1 hi.2).1
  have hml := mks_len hg h
  have hml2 : (rowAt bk d.2.1).2.length + 1 = (mks bk d).length := by unfold mks; simp
  refine TF_B rfl ?_
  simp [g_law_inside, start0, toBk, toRow, toDr, atI_pos hi.1, hrow]
  refine Tp_of (gLcP_all (f := toDr) (h := fun o => .str o.1) fun o ho => ?_) ?_
  · simp [toDr]
  simp
  refine ⟨by omega, by omega, ?_⟩
  have e : List.map (fun o : Dr => D.str o.1) (rowAt bk d.2.1).2 ++ [D.str d.2.2] = (mks bk d).map D.str := by unfold mks; simp
  rw [e]
  exact k
/-! ### the fewest escapes, reckoned -/
structure FewE (bk : Bk) (d : Dr) (t : List Nat) (F : Kc) (x7 x8 x9 x10 x11 x12 x13 x14 : Option M) (ρ : Env) : Prop where
  e : ρ = [some (.dat (toBk bk)), some (.dat (toDr d)), some (.dat (.str t)), some (.dat (.str (escO bk d))), some (.dat (.lst ((mks bk d).map D.str))), some (.dat (.str (t ++ d.2.2))), some (.dat (.dic (F.map kcD))), x7, x8, x9, x10, x11, x12, x13, x14]
theorem SemK.few {bk : Bk} {d : Dr} {t : List Nat} {p : Nat} {F : Kc} (h : SemK bk d t p F) : F.length ≤ 4 := by
  have := nodup_le [0, 1, 2, 3] (F.map (·.1)) h.n fun x hx => by
    obtain ⟨a, ha, rfl⟩ := List.mem_map.mp hx
    obtain ⟨s, _, _, s3, _⟩ := h.s a ha
    rw [← s3]
    have : stB s ≤ 3 := by
      cases s with
      | nil => exact Nat.le_refl _
      | cons b s => cases b <;> simp [stB] <;> omega
    simp
    omega
  simpa using this
theorem marks_loop {bk : Bk} {d : Dr} {t : List Nat} {F : Kc} {q far : Nat} {x8 x11 x12 x13 x14 : Option M} (hg : Good bk) (h : DrOk bk d) (ht : t.length ≤ 5000) (hq : q < t.length) {Φ : Fl → Env → Prop}
    (k : ∀ y11 y12 y13, Φ .nx [some (.dat (toBk bk)), some (.dat (toDr d)), some (.dat (.str t)), some (.dat (.str (escO bk d))), some (.dat (.lst ((mks bk d).map D.str))), some (.dat (.str (t ++ d.2.2))), some (.dat (.dic (F.map kcD))), some (.dat (.int (q : Nat))), x8, some (.dat (.int (far : Nat))), some (.dat (.bl (freeAt bk d t q far))), y11, y12, y13, x14]) :
    T (gForL (gTo 11) g_law_fewest_B1 ((mks bk d).map D.str)) [some (.dat (toBk bk)), some (.dat (toDr d)), some (.dat (.str t)), some (.dat (.str (escO bk d))), some (.dat (.lst ((mks bk d).map D.str))), some (.dat (.str (t ++ d.2.2))), some (.dat (.dic (F.map kcD))), some (.dat (.int (q : Nat))), x8, some (.dat (.int (far : Nat))), some (.dat (.bl (decide (t[q]?.toList ≠ escO bk d)))), x11, x12, x13, x14] Φ := by
  have hmk := h.mk1 hg
  have hcl : d.2.2.length ≤ 4 := (hmk d.2.2 (by unfold mks; simp)).l
  refine T_forM (fun pre ρ => ∃ y11 y12 y13, ρ = [some (.dat (toBk bk)), some (.dat (toDr d)), some (.dat (.str t)), some (.dat (.str (escO bk d))), some (.dat (.lst ((mks bk d).map D.str))), some (.dat (.str (t ++ d.2.2))), some (.dat (.dic (F.map kcD))), some (.dat (.int (q : Nat))), x8, some (.dat (.int (far : Nat))), some (.dat (.bl (decide (t[q]?.toList ≠ escO bk d) && !blocked pre (t ++ d.2.2) t.length q far))), y11, y12, y13, x14]) ?_ ?_ ?_
  · rintro pre m suf ρ e ⟨y11, y12, y13, rfl⟩
    have hm := hmk m (by rw [e]; simp)
    have hm1 : 1 ≤ m.length := List.length_pos_iff.mpr hm.n
    have hm4 := hm.l
    have hcut : cutD (t ++ d.2.2) (some (q : Int)) (some ((q : Int) + (m.length : Int))) = ((t ++ d.2.2).drop q).take m.length := by
      rw [cutD_lohi (by omega) (by omega)]
      congr 1
      omega
    have hrl : (((t ++ d.2.2).drop q).take m.length).length = min m.length (t.length + d.2.2.length - q) := by simp
    have hfit : (cutD m none (some ((min m.length (t.length + d.2.2.length - q) : Nat) : Int)) = ((t ++ d.2.2).drop q).take m.length) ↔ fits1 (t ++ d.2.2) m q = true := by
      rw [cutD_hi (by omega), Int.toNat_natCast, ← hrl]
      unfold fits1
      rw [← pre_take, beq_iff_eq]
    have hle : (if (t.length : Int) - 1 - (q : Int) < (m.length : Int) - 1 then (t.length : Int) - 1 - (q : Int) else (m.length : Int) - 1) = ((leastM m t.length q : Nat) : Int) := by
      unfold leastM
      split <;> omega
    have hbl : blocked (pre ++ [m]) (t ++ d.2.2) t.length q far = (blocked pre (t ++ d.2.2) t.length q far || (fits1 (t ++ d.2.2) m q && decide (leastM m t.length q ≤ far))) := by
      unfold blocked
      rw [List.any_append]
      simp
    simp [g_law_fewest_B1, hcut]
    rw [hle, hbl, hfit]
    refine ⟨by omega, by omega, by omega, by omega, by omega, by omega, fun hf => ⟨fun hl _ => ?_, fun hl => ?_⟩, fun hf => ?_⟩
    · rw [hf, decide_eq_true (by omega : leastM m t.length q ≤ far)]
      simp
    · rw [decide_eq_false (by omega : ¬ leastM m t.length q ≤ far)]
      simp
    · have hf' : fits1 (t ++ d.2.2) m q = false := by simpa using hf
      rw [hf']
      simp
  · rintro ρ ⟨y11, y12, y13, rfl⟩
    exact k y11 y12 y13
  · exact ⟨x11, x12, x13, by simp [blocked]⟩
theorem min_nat {a b : Nat} : (if (b : Int) < (a : Int) then (b : Int) else (a : Int)) = ((min a b : Nat) : Int) := by
  split <;> omega
theorem min_get {G : Kc} {k v : Nat} : fMin2 [M.dat ((lookD (G.map kcD) (.int (k : Nat))).getD (.int (v : Nat))), M.dat (.int (v : Nat))] = some (.dat (.int ((min ((lookN G k).getD v) v : Nat) : Int))) := by
  have gd : (lookD (G.map kcD) (.int (k : Nat))).getD (.int (v : Nat)) = .int (((lookN G k).getD v : Nat) : Int) := by
    rw [lookD_kc]
    cases lookN G k <;> rfl
  rw [gd]
  simp only [fMin2_int]
  rw [min_nat]
theorem putN_len {F : Kc} {k v : Nat} : (putN F k v).length ≤ F.length + 1 := by
  unfold putN
  split <;> simp
theorem keys_loop {bk : Bk} {d : Dr} {t : List Nat} {F : Kc} {q : Nat} {x9 x10 x11 x12 x13 x14 : Option M} (hg : Good bk) (h : DrOk bk d) (ht : t.length ≤ 5000) (hq : q < t.length) (hs : SemK bk d t (q + 1) F) {Φ : Fl → Env → Prop}
    (k : ∀ G y9 y10 y11 y12 y13 y14, SemK bk d t q G → Φ .nx [some (.dat (toBk bk)), some (.dat (toDr d)), some (.dat (.str t)), some (.dat (.str (escO bk d))), some (.dat (.lst ((mks bk d).map D.str))), some (.dat (.str (t ++ d.2.2))), some (.dat (.dic (F.map kcD))), some (.dat (.int (q : Nat))), some (.dic (G.map kcD)), y9, y10, y11, y12, y13, y14]) :
    T (gForL (gTo 9) g_law_fewest_B2 (F.map fun a => D.int (a.1 : Nat))) [some (.dat (toBk bk)), some (.dat (toDr d)), some (.dat (.str t)), some (.dat (.str (escO bk d))), some (.dat (.lst ((mks bk d).map D.str))), some (.dat (.str (t ++ d.2.2))), some (.dat (.dic (F.map kcD))), some (.dat (.int (q : Nat))), some (.dic []), x9, x10, x11, x12, x13, x14] Φ := by
  have hfew := hs.few
  refine T_forM (f := fun a : Nat × Nat => D.int (a.1 : Nat)) (fun pre ρ => ∃ G y9 y10 y11 y12 y13 y14, Rep G (pre.flatMap (candK bk d t q)) ∧ G.length ≤ 2 * pre.length ∧ ρ = [some (.dat (toBk bk)), some (.dat (toDr d)), some (.dat (.str t)), some (.dat (.str (escO bk d))), some (.dat (.lst ((mks bk d).map D.str))), some (.dat (.str (t ++ d.2.2))), some (.dat (.dic (F.map kcD))), some (.dat (.int (q : Nat))), some (.dic (G.map kcD)), y9, y10, y11, y12, y13, y14]) ?_ ?_ ?_
  · rintro pre ⟨far, v⟩ suf ρ e ⟨G, y9, y10, y11, y12, y13, y14, hr, hgl, rfl⟩
    have hpl : pre.length + suf.length + 1 = F.length := by rw [e]; simp; omega
    have hlv : lookN F far = some v := (lookN_some hs.n).mpr (by rw [e]; simp)
    have htq : t[q]? = some t[q] := List.getElem?_eq_getElem hq
    simp [g_law_fewest_B2]
    rw [htq]
    simp
    refine ⟨by omega, ?_⟩
    have e10 : (![t[q]] == escO bk d) = decide (t[q]?.toList ≠ escO bk d) := by
      rw [htq]
      by_cases z : [t[q]] = escO bk d <;> simp [z]
    rw [e10]
    refine marks_loop hg h ht hq fun y11 y12 y13 => ?_
    simp [g_law_fewest_K1, lookD_kc, hlv]
    have e0 : (D.int 0) = D.int ((0 : Nat) : Int) := rfl
    have ev : ((v : Int) + 1) = ((v + 1 : Nat) : Int) := rfl
    have e3 : (if (far : Int) + 1 < 3 then (far : Int) + 1 else 3) = ((min 3 (far + 1) : Nat) : Int) := by split <;> omega
    rw [e0, ev, e3]
    have hG1 : (putN G 0 (min ((lookN G 0).getD (v + 1)) (v + 1))).length ≤ G.length + 1 := putN_len
    refine ⟨fun he => ?_, fun he => ⟨fun hf => ?_, fun hf => ?_⟩⟩
    · rw [min_get]
      simp only [Tp_some, view_dat]
      refine ⟨by omega, fun hf => ?_, fun hf => ?_⟩
      · rw [putD_kc, min_get]
        simp only [Tp_some, view_dat]
        refine ⟨by rw [List.length_map]; omega, putN (putN G 0 (min ((lookN G 0).getD (v + 1)) (v + 1))) (min 3 (far + 1)) _, ?_, Nat.le_trans putN_len (by omega), putD_kc _ _ _⟩
        have := (hr.put 0 (v + 1)).put (min 3 (far + 1)) v
        unfold candK
        rw [if_pos he, if_pos hf]
        rw [List.append_assoc] at this
        exact this
      · refine ⟨putN G 0 _, ?_, by omega, putD_kc _ _ _⟩
        have := hr.put 0 (v + 1)
        unfold candK
        rw [if_pos he, if_neg (by rw [hf]; simp)]
        exact this
    · rw [min_get]
      simp only [Tp_some, view_dat]
      refine ⟨by omega, putN G (min 3 (far + 1)) _, ?_, Nat.le_trans putN_len (by omega), putD_kc _ _ _⟩
      have := hr.put (min 3 (far + 1)) v
      unfold candK
      rw [if_neg (by rw [he]; simp), if_pos hf]
      exact this
    · refine ⟨G, ?_, by omega, rfl⟩
      have hc : candK bk d t q (far, v) = [] := by
        unfold candK
        rw [if_neg (by rw [he]; simp), if_neg (by rw [hf]; simp)]
        rfl
      rw [hc, List.append_nil]
      exact hr
  · rintro ρ ⟨G, y9, y10, y11, y12, y13, y14, hr, hgl, rfl⟩
    exact k G y9 y10 y11 y12 y13 y14 (hs.step hq hr)
  · exact ⟨[], x9, x10, x11, x12, x13, x14, .nil, by simp, rfl⟩
theorem minL_ok {L : List Nat} {v : Nat} (hv : v ∈ L) (hl : ∀ u ∈ L, v ≤ u) : fMinL [.lst (L.map fun n : Nat => M.dat (.int (n : Int)))] = some (.dat (.int (v : Nat))) := by
  have e1 : litems (.lst (L.map fun n : Nat => M.dat (.int (n : Int)))) = some (L.map fun n : Nat => D.int (n : Int)) := by
    have := dats_map (L.map fun n : Nat => D.int (n : Int))
    rw [List.map_map] at this
    exact this
  have e2 : ∀ L : List Nat, intL (L.map fun n : Nat => D.int (n : Int)) = some (L.map fun n : Nat => (n : Int)) := by
    intro L
    induction L with
    | nil => rfl
    | cons a L ih => simp [intL, ih]
  simp only [fMinL, e1, e2]
  cases L with
  | nil => exact absurd hv List.not_mem_nil
  | cons a L =>
    simp only [List.map_cons]
    obtain ⟨h1, h2, h3⟩ := foldl_min (L.map fun n : Nat => (n : Int)) (a : Int)
    generalize hm : (L.map fun n : Nat => (n : Int)).foldl min (a : Int) = m at *
    have hmv : m ≤ (v : Int) := by
      rcases List.mem_cons.mp hv with rfl | z
      · exact h2
      · exact h3 _ (List.mem_map.mpr ⟨v, z, rfl⟩)
    have hvm : (v : Int) ≤ m := by
      rcases h1 with z | z
      · rw [z]
        exact Int.ofNat_le.mpr (hl a List.mem_cons_self)
      · obtain ⟨u, hu, rfl⟩ := List.mem_map.mp z
        exact Int.ofNat_le.mpr (hl u (List.mem_cons_of_mem _ hu))
    rw [Int.le_antisymm hmv hvm]
structure FewI (bk : Bk) (d : Dr) (t : List Nat) (rest : List D) (ρ : Env) : Prop where
  e : ∃ p F x7 x8 x9 x10 x11 x12 x13 x14, rest = ((List.range p).map fun i : Nat => D.int (i : Int)).reverse ∧ p ≤ t.length ∧ SemK bk d t p F ∧ FewE bk d t F x7 x8 x9 x10 x11 x12 x13 x14 ρ
theorem fewest_ok {bk : Bk} {d : Dr} {t : List Nat} (hg : Good bk) (h : DrOk bk d) (ht : t.length ≤ 5000) {Φ : M → Option M → Prop} (k1 : escO bk d = [] → places bk d t ≠ [] → Φ (.dat .non) none)
    (k2 : ¬ (escO bk d = [] ∧ places bk d t ≠ []) → (maskP (places bk d t) t.length).count true = (places bk d t).length → Φ (.dat (.int ((places bk d t).length : Nat))) none) : TF F_law_fewest [.dat (toBk bk), .dat (toDr d), .dat (.str t)] Φ := by
  have hmk := h.mk1 hg
  have hcl : d.2.2.length ≤ 4 := (hmk d.2.2 (by unfold mks; simp)).l
  refine TF_B rfl ?_
  simp [g_law_fewest, start0]
  refine inside_ok hg h ?_
  simp
  rw [show fIdx (M.dat (toDr d)) (M.dat (D.int 2)) = some (.dat (.str d.2.2)) from rfl]
  simp
  refine ⟨by omega, Tp_of (a := M.dic [(.int 3, .int 0)]) rfl ?_⟩
  simp
  refine ⟨by omega, by simp [rgOk]; omega, ?_⟩
  rw [← List.map_reverse, views_dat, rng0]
  simp
  refine T_forL (FewI bk d t) ?_ ?_ ?_
  · rintro dd rest ρ ⟨p, F, x7, x8, x9, x10, x11, x12, x13, x14, e, hp, hs, ⟨rfl⟩⟩
    cases p with
    | zero => simp at e
    | succ q =>
      rw [List.range_succ, List.map_append, List.reverse_append] at e
      simp only [List.map_cons, List.map_nil, List.reverse_cons, List.reverse_nil, List.nil_append, List.singleton_append] at e
      injection e with e1 e2
      subst e1
      simp [g_law_fewest_B3]
      refine Tp_of (a := (F.map kcD).map (·.1)) rfl ?_
      rw [List.map_map]
      refine keys_loop (F := F) hg h ht (by omega) hs fun G y9 y10 y11 y12 y13 y14 hG => ?_
      simp [g_law_fewest_K2]
      exact ⟨q, G, some (.dat (.int (q : Nat))), some (.dat (.dic (G.map kcD))), y9, y10, y11, y12, y13, y14, e2, by omega, hG, ⟨rfl⟩⟩
  · rintro ρ ⟨p, F, x7, x8, x9, x10, x11, x12, x13, x14, e, hp, hs, ⟨rfl⟩⟩
    have hp0 : p = 0 := by
      cases p with
      | zero => rfl
      | succ q => simp [List.range_succ] at e
    subst hp0
    obtain ⟨d1, d2⟩ := hs.due hg h
    have hfew := hs.few
    simp [g_law_fewest_K3]
    rw [show fEqE (M.dat (D.dic (F.map kcD))) (M.dic []) = some (.dat (.bl (F.map kcD).isEmpty)) from rfl]
    simp
    refine ⟨fun he => ?_, fun he => ?_⟩
    · obtain ⟨q1, q2⟩ := d1.mp he
      exact k1 q1 q2
    · obtain ⟨⟨a, ha, hav⟩, hlow, hcnt⟩ := d2 he
      refine Tp_of (a := (F.map kcD).map (·.1)) rfl ?_
      rw [List.map_map]
      refine Tp_of (gLcP_all (f := fun a : Nat × Nat => D.int (a.1 : Nat)) (h := fun a => .int (a.2 : Nat)) fun b hb => ?_) ?_
      · have hlb : lookN F b.1 = some b.2 := (lookN_some hs.n).mpr hb
        simp [lookD_kc, hlb]
      · refine ⟨by simp; omega, ?_⟩
        have e3 : List.map M.dat (F.map fun a => D.int (a.2 : Nat)) = (F.map (·.2)).map fun n : Nat => M.dat (.int (n : Int)) := by rw [List.map_map, List.map_map]; rfl
        have hq : ¬ (escO bk d = [] ∧ places bk d t ≠ []) := fun z => he (d1.mpr z)
        rw [e3, minL_ok (v := (places bk d t).length) (List.mem_map.mpr ⟨a, ha, hav⟩) fun u hu => by
          obtain ⟨b, hb, rfl⟩ := List.mem_map.mp hu
          exact hlow b hb]
        exact k2 hq hcnt
  · exact ⟨t.length, [(3, 0)], none, none, none, none, none, none, none, none, by simp, Nat.le_refl _, .start, ⟨rfl⟩⟩
/-! ### what is written, read -/
def cntP (P : List Nat) (i : Nat) : Nat := ((List.range i).filter fun j => decide (j ∈ P)).length
theorem cntP_mask {P : List Nat} {n : Nat} : (maskP P n).count true = cntP P n := by
  unfold maskP cntP
  rw [List.count_eq_countP, List.countP_map, List.countP_eq_length_filter]
  congr 2
  funext i
  simp
theorem cntP_in {P : List Nat} {i : Nat} (h : i ∈ P) : cntP P (i + 1) = cntP P i + 1 := by
  unfold cntP
  rw [List.range_succ, List.filter_append, List.length_append]
  simp [h]
theorem cntP_out {P : List Nat} {i : Nat} (h : i ∉ P) : cntP P (i + 1) = cntP P i := by
  unfold cntP
  rw [List.range_succ, List.filter_append, List.length_append]
  simp [h]
theorem cntP_le {P : List Nat} {i : Nat} : cntP P i ≤ i := by
  unfold cntP
  exact Nat.le_trans (List.length_filter_le _ _) (by simp)
theorem no_rest {bk : Bk} {d : Dr} {t P : List Nat} (hg : Good bk) (h : DrOk bk d) (hh : Hit bk d t P) (hp : escO bk d = [] → P = []) {i : Nat} (hi : i < t.length) {m : List Nat} (hm : m ∈ mks bk d) : ((wr (escO bk d) P i (t.drop i) ++ d.2.2).take m.length).isPrefixOf m = false := by
  rw [Bool.eq_false_iff]
  intro hq
  have hq := List.isPrefixOf_iff_prefix.mp hq
  generalize hX : wr (escO bk d) P i (t.drop i) ++ d.2.2 = X at hq
  have hn := no_mark (tail := m.drop X.length) hg h hh hp hi hm
  rw [hX] at hn
  have : m <+: X ++ m.drop X.length := by
    by_cases hl : m.length ≤ X.length
    · have e : X.take m.length = m := hq.eq_of_length (by simp; omega)
      have : m <+: X := by
        conv => lhs; rw [← e]
        exact List.take_prefix _ _
      exact this.trans (List.prefix_append _ _)
    · rw [List.take_of_length_le (by omega)] at hq
      obtain ⟨z, hz⟩ := hq
      rw [← hz]
      simp
  rw [List.isPrefixOf_iff_prefix.mpr this] at hn
  cases hn
structure UnI (bk : Bk) (d : Dr) (t P W : List Nat) (m : Nat) (ρ : Env) : Prop where
  e : ∃ i q x10 x11, i ≤ t.length ∧ m = t.length - i ∧ q ≤ W.length ∧ W.drop q = wr (escO bk d) P i (t.drop i) ∧ ρ = [some (.dat (toBk bk)), some (.dat (toDr d)), some (.dat (.str W)), some (.dat (.str t)), some (.dat (.str (escO bk d))), some (.dat (.lst ((mks bk d).map D.str))), some (.dat (.str (W ++ d.2.2))), some (.dat (.str (t.take i))), some (.dat (.int (q : Nat))), some (.dat (.int (cntP P i : Nat))), x10, x11]
theorem unput_marks {bk : Bk} {d : Dr} {t P W : List Nat} {i q : Nat} {x10 x11 : Option M} {y7 y9 : M} (hg : Good bk) (h : DrOk bk d) (hh : Hit bk d t P) (hp : escO bk d = [] → P = []) (hi : i < t.length) (hql : q ≤ W.length) (hWl : W.length ≤ 10000) (hW : W.drop q = wr (escO bk d) P i (t.drop i)) {Φ : Fl → Env → Prop}
    (k : ∀ x10 x11, Φ .nx [some (.dat (toBk bk)), some (.dat (toDr d)), some (.dat (.str W)), some (.dat (.str t)), some (.dat (.str (escO bk d))), some (.dat (.lst ((mks bk d).map D.str))), some (.dat (.str (W ++ d.2.2))), some y7, some (.dat (.int (q : Nat))), some y9, x10, x11]) :
    T (gForL (gTo 10) g_law_unput_B1 ((mks bk d).map D.str)) [some (.dat (toBk bk)), some (.dat (toDr d)), some (.dat (.str W)), some (.dat (.str t)), some (.dat (.str (escO bk d))), some (.dat (.lst ((mks bk d).map D.str))), some (.dat (.str (W ++ d.2.2))), some y7, some (.dat (.int (q : Nat))), some y9, x10, x11] Φ := by
  have hmk := h.mk1 hg
  have hcl : d.2.2.length ≤ 4 := (hmk d.2.2 (by unfold mks; simp)).l
  refine T_forM (fun pre ρ => ∃ x10 x11, ρ = [some (.dat (toBk bk)), some (.dat (toDr d)), some (.dat (.str W)), some (.dat (.str t)), some (.dat (.str (escO bk d))), some (.dat (.lst ((mks bk d).map D.str))), some (.dat (.str (W ++ d.2.2))), some y7, some (.dat (.int (q : Nat))), some y9, x10, x11]) ?_ ?_ ?_
  · rintro pre m suf ρ e ⟨x10, x11, rfl⟩
    have hm' : m ∈ mks bk d := by rw [e]; simp
    have hm := hmk m hm'
    have hm4 := hm.l
    have hcut : cutD (W ++ d.2.2) (some (q : Int)) (some ((q : Int) + (m.length : Int))) = ((W ++ d.2.2).drop q).take m.length := by
      rw [cutD_lohi (by omega) (by omega)]
      congr 1
      omega
    have hno := no_rest hg h hh hp hi hm'
    rw [← hW, ← List.drop_append_of_le_length hql] at hno
    have hrl : (((W ++ d.2.2).drop q).take m.length).length = min m.length (W.length + d.2.2.length - q) := by simp
    have hne : ¬ (cutD m none (some ((min m.length (W.length + d.2.2.length - q) : Nat) : Int)) = ((W ++ d.2.2).drop q).take m.length) := by
      rw [cutD_hi (by omega), Int.toNat_natCast, ← hrl]
      intro z
      rw [← pre_take, beq_eq_false_iff_ne] at hno
      exact hno z
    simp [g_law_unput_B1, hcut]
    exact ⟨by omega, by omega, by omega, by omega, fun z => absurd z hne⟩
  · rintro ρ ⟨x10, x11, rfl⟩
    exact k x10 x11
  · exact ⟨x10, x11, rfl⟩
theorem unput_ok {bk : Bk} {d : Dr} {t P : List Nat} (hg : Good bk) (h : DrOk bk d) (hh : Hit bk d t P) (hp : escO bk d = [] → P = []) (ht : t.length ≤ 5000) {Φ : M → Option M → Prop} (k : Φ (.dat (.int (cntP P t.length : Nat))) none) : TF F_law_unput [.dat (toBk bk), .dat (toDr d), .dat (.str (wr (escO bk d) P 0 t)), .dat (.str t)] Φ := by
  have hi' := h.in_ hg
  have hel : (escO bk d).length ≤ 1 := hg.z.e _ (row_in hi'.1 hi'.2).2
  have hmk := h.mk1 hg
  have hcl : d.2.2.length ≤ 4 := (hmk d.2.2 (by unfold mks; simp)).l
  have hWl : (wr (escO bk d) P 0 t).length ≤ 10000 := by
    rw [← written_eq]
    have hfl := pieces_sum (e := escO bk d) hel P t.zipIdx
    unfold written
    rw [List.length_flatten]
    simp only [List.length_zipIdx] at hfl
    omega
  have hW0 : (wr (escO bk d) P 0 t).drop 0 = wr (escO bk d) P 0 (t.drop 0) := by simp
  generalize wr (escO bk d) P 0 t = W at hWl hW0 ⊢
  refine TF_B rfl ?_
  simp [g_law_unput, start0]
  refine inside_ok hg h ?_
  simp
  rw [show fIdx (M.dat (toDr d)) (M.dat (D.int 2)) = some (.dat (.str d.2.2)) from rfl]
  simp
  refine ⟨by omega, T_whileL (UnI bk d t P W) ?_ 1000000 t.length _ ⟨0, 0, none, none, Nat.zero_le _, by simp, Nat.zero_le _, hW0, by simp [cntP]⟩ (by omega)⟩
  rintro m ρ ⟨i, q, x10, x11, hi, rfl, hq, hW, rfl⟩
  simp
  refine ⟨by omega, fun hql => ?_, fun hql => ?_⟩
  · have hin : i < t.length := by
      by_cases z : i < t.length
      · exact z
      · have hz : t.drop i = [] := List.drop_eq_nil_of_le (by omega)
        rw [hz] at hW
        have := congrArg List.length hW
        simp [wr] at this
        omega
    have hd := List.drop_eq_getElem_cons hin
    have hWq : W[q]? = some W[q] := List.getElem?_eq_getElem hql
    have hWc : W.drop q = W[q] :: W.drop (q + 1) := List.drop_eq_getElem_cons hql
    have hti : t.take (i + 1) = t.take i ++ [t[i]] := by rw [List.take_add_one]; simp [hin]
    have hwr : wr (escO bk d) P i (t.drop i) = (if i ∈ P then escO bk d ++ [t[i]] else [t[i]]) ++ wr (escO bk d) P (i + 1) (t.drop (i + 1)) := by
      conv => lhs; rw [hd]
      rfl
    have hI : i ∈ P → [W[q]] = escO bk d ∧ W[q + 1]? = some t[i] ∧ W.drop (q + 2) = wr (escO bk d) P (i + 1) (t.drop (i + 1)) ∧ q + 2 ≤ W.length := fun hip => by
      have hne : escO bk d ≠ [] := fun z => by rw [hp z] at hip; exact absurd hip List.not_mem_nil
      obtain ⟨x, hx⟩ := esc_one hg h hne
      rw [hwr, if_pos hip, hx] at hW
      rw [hx]
      have hl := congrArg List.length hW
      simp at hl
      refine ⟨?_, ?_, ?_, by omega⟩
      · rw [(List.cons.inj (show W[q] :: W.drop (q + 1) = x :: (t[i] :: wr [x] P (i + 1) (t.drop (i + 1))) from hWc.symm.trans hW)).1]
      · rw [← List.getElem?_drop, hW]
        rfl
      · rw [← List.drop_drop, hW]
        rfl
    have hO : i ∉ P → W[q] = t[i] ∧ W.drop (q + 1) = wr (escO bk d) P (i + 1) (t.drop (i + 1)) ∧ [W[q]] ≠ escO bk d := fun hip => by
      rw [hwr, if_neg hip] at hW
      have hW := List.cons.inj (show W[q] :: W.drop (q + 1) = t[i] :: wr (escO bk d) P (i + 1) (t.drop (i + 1)) from hWc.symm.trans hW)
      refine ⟨hW.1, hW.2, fun z => hip (hh.e i hin (by rw [← hW.1]; exact z))⟩
    have plain : [W[q]] ≠ escO bk d → T (gForL (gTo 10) g_law_unput_B1 ((mks bk d).map D.str)) [some (.dat (toBk bk)), some (.dat (toDr d)), some (.dat (.str W)), some (.dat (.str t)), some (.dat (.str (escO bk d))), some (.dat (.lst ((mks bk d).map D.str))), some (.dat (.str (W ++ d.2.2))), some (.dat (.str (t.take i))), some (.dat (.int (q : Nat))), some (.dat (.int (cntP P i : Nat))), x10, x11] fun f ρ => f = .nx ∧ T g_law_unput_K1 ρ fun f ρ2 => f = .nx ∧ UnI bk d t P W (t.length - (i + 1)) ρ2 := fun hne => by
      have hip : i ∉ P := fun z => hne (hI z).1
      obtain ⟨o1, o2, o3⟩ := hO hip
      refine unput_marks hg h hh hp hin hq hWl hW fun x10 x11 => ⟨rfl, ?_⟩
      simp [g_law_unput_K1, hWq]
      refine ⟨by omega, by omega, i + 1, q + 1, x10, x11, by omega, rfl, by omega, o2, ?_⟩
      rw [hti, cntP_out hip, o1]
      rfl
    simp [g_law_unput_B2, hWq]
    refine ⟨fun he => ⟨by omega, fun hw => ?_, fun hw => ?_⟩, fun he => ?_⟩
    · have hip : i ∈ P := by
        by_cases z : i ∈ P
        · exact z
        · exact absurd hw (hO z).2.2
      obtain ⟨o1, o2, o3, o4⟩ := hI hip
      refine ⟨by omega, fun z => by omega, fun _ => ⟨by omega, ?_⟩⟩
      rw [atI_pos (by omega), show ((q : Int) + 1).toNat = q + 1 by omega, o2]
      simp
      refine ⟨by omega, t.length - (i + 1), by omega, i + 1, q + 2, x10, x11, by omega, rfl, o4, o3, ?_⟩
      rw [hti, cntP_in hip]
      rfl
    · refine T.mono (plain hw) ?_
      rintro f ρ ⟨rfl, hk⟩
      refine T.mono hk ?_
      rintro f ρ2 ⟨rfl, hu⟩
      exact ⟨_, by omega, hu⟩
    · have hne : [W[q]] ≠ escO bk d := by rw [he]; simp
      refine T.mono (plain hne) ?_
      rintro f ρ ⟨rfl, hk⟩
      refine T.mono hk ?_
      rintro f ρ2 ⟨rfl, hu⟩
      exact ⟨_, by omega, hu⟩
  · have hin : i = t.length := by
      by_cases z : i < t.length
      · have hz := List.drop_eq_nil_of_le hql
        rw [hz, List.drop_eq_getElem_cons z] at hW
        have := congrArg List.length hW
        simp [wr] at this
        by_cases y : i ∈ P <;> simp [y] at this <;> omega
      · omega
    subst hin
    simp [g_law_unput_K2]
    exact k
/-! ### the tries -/
theorem fewesc_ok {bk : Bk} {to number : Nat} {r : Row} {d : Dr} {t : List Nat} (hg : Good bk) (hr : bk[to]? = some r) (hd : r.2[number]? = some d) (ht : t.length ≤ 5000) {Φ : M → Option M → Prop} {Ε : Nat → Option M → Prop} (k1 : escO bk d = [] → places bk d t ≠ [] → Ε 26 none)
    (k2 : ¬ (escO bk d = [] ∧ places bk d t ≠ []) → Φ (.dat (.int ((places bk d t).length : Nat))) none) : TFx F_fewest_escapes [.dat (toBk bk), .dat (.int to), .dat (.int number), .dat (.str t)] Φ Ε := by
  have h : DrOk bk d := ⟨r, List.mem_of_getElem? hr, List.mem_of_getElem? hd⟩
  refine TFx_B rfl ?_
  simp [g_fewest_escapes, start0]
  refine door_of_ok hg hr hd ?_
  simp
  refine escaped_ok hg h ht k1 fun hk => ?_
  simp
  exact k2 hk
def noWay : M := .lst [.dat (.str (sc "NoWay+")), .dat .non]
theorem tried_ok {bk : Bk} {to number way : Nat} {r : Row} {d : Dr} {t : List Nat} (hg : Good bk) (hr : bk[to]? = some r) (hd : r.2[number]? = some d) (ht : t.length ≤ 5000) {Φ : M → Option M → Prop} (k1 : escO bk d = [] → places bk d t ≠ [] → Φ noWay none)
    (k2 : ¬ (escO bk d = [] ∧ places bk d t ≠ []) → Φ (.lst [.dat (.str []), if way = 0 then .dat (.str (written (escO bk d) (places bk d t) t)) else .dat (.int ((places bk d t).length : Nat))]) none) : TF F_law_tried [.dat (.int way), .dat (toBk bk), .dat (.tup [.int to, .int number]), .dat (.str t)] Φ := by
  refine TF_B rfl ?_
  simp [g_law_tried, start0]
  refine ⟨fun hw => ?_, fun hw => ?_⟩
  · subst hw
    refine put_in_ok hg hr hd ht (fun h1 h2 => ?_) fun h1 => ?_
    · exact Tp_of (a := sc "NoWay+") rfl (k1 h1 h2)
    · have := k2 h1
      simpa using this
  · refine fewesc_ok hg hr hd ht (fun h1 h2 => ?_) fun h1 => ?_
    · exact Tp_of (a := sc "NoWay+") rfl (k1 h1 h2)
    · have := k2 h1
      rw [if_neg hw] at this
      simpa using this
/-! ### texts, doors -/
theorem own_text_ok {bk : Bk} {d : Dr} {a b : Int} (hg : Good bk) (h : DrOk bk d) {Φ : M → Option M → Prop} (k : ∀ (t : List Nat) (a' b' : Int), t.length ≤ 100 → (∀ c ∈ t, c < 1114112) → Φ (.dat (.str t)) (some (bag a' b'))) : TF F_law_own_text [bag a b, .dat (toBk bk), .dat (toDr d)] Φ := by
  have hmk := h.mk1 hg
  have hml := mks_len hg h
  have hi := h.in_ hg
  have hel : (escO bk d).length ≤ 1 := hg.z.e _ (row_in hi.1 hi.2).2
  have hec : ∀ x ∈ escO bk d, x < 1114112 := fun x hx => by
    have := hg.z.me _ (row_in hi.1 hi.2).2 x hx
    omega
  refine TF_B rfl ?_
  simp [g_law_own_text, start0]
  refine inside_ok hg h ?_
  simp
  refine text_ok' hg.z (by decide) (by decide) fun t a1 b1 htl htc => ?_
  simp
  refine take_ok (by omega) (by omega) fun r1 a2 b2 r10 r11 => ?_
  simp
  have n10 : (10 : Int).toNat = 10 := rfl
  have hpick : ∀ m ∈ mks bk d, m.length ≤ 4 ∧ ∀ c ∈ m, c < 1114112 := fun m hm => ⟨(hmk m hm).l, (hmk m hm).c⟩
  refine ⟨by omega, T_forL (fun rest ρ => ∃ (a b : Int) (t : List Nat) (x6 x7 : Option M), ρ = [some (bag a b), some (.dat (toBk bk)), some (.dat (toDr d)), some (.dat (.str (escO bk d))), some (.dat (.lst ((mks bk d).map D.str))), some (.dat (.str t)), x6, x7] ∧ t.length + 4 * rest.length ≤ 64 ∧ ∀ c ∈ t, c < 1114112) ?_ ?_ ⟨a2, b2, t, none, none, rfl, by simp [rngD_len]; omega, htc⟩⟩
  · rintro dd rest ρ ⟨a, b, t, x6, x7, rfl, ht, hc⟩
    simp [g_law_own_text_B1]
    refine ⟨by omega, take_ok (by omega) (by omega) fun r a b r0 r1 => ?_⟩
    simp
    refine pickI r0 (by simp; omega) fun x hx => ?_
    have hxs : ∃ m, x = .str m ∧ m.length ≤ 4 ∧ ∀ c ∈ m, c < 1114112 := by
      rcases List.mem_append.mp hx with z | z
      · obtain ⟨m, hm, rfl⟩ := List.mem_map.mp z
        exact ⟨m, rfl, hpick m hm⟩
      · simp at z
        rcases z with rfl | rfl | rfl
        · exact ⟨_, rfl, by decide, by decide⟩
        · exact ⟨_, rfl, by decide, by decide⟩
        · exact ⟨_, rfl, by omega, hec⟩
    obtain ⟨m, rfl, hm4, hmc⟩ := hxs
    simp at ht ⊢
    refine ⟨by omega, a, b, t ++ m, ⟨⟨rfl, rfl⟩, rfl⟩, by simp; omega, fun c hcc => ?_⟩
    rcases List.mem_append.mp hcc with z | z
    · exact hc c z
    · exact hmc c z
  · rintro ρ ⟨a, b, t, x6, x7, rfl, ht, hc⟩
    simp [g_law_own_text_K1]
    have hm1 : 0 < (mks bk d).length := by unfold mks; simp
    refine take_ok (by omega) (by omega) fun r a b r0 r1 => ?_
    simp
    refine pickI r0 (by simp; omega) fun x hx => ?_
    obtain ⟨m, hm, rfl⟩ := List.mem_map.mp hx
    obtain ⟨hm4, hmc⟩ := hpick m hm
    simp
    refine ⟨by omega, take_ok (by omega) (by omega) fun r a b r0 r1 => ?_⟩
    simp
    rw [cutD_hi r0]
    simp at ht
    refine ⟨by omega, by simp; omega, k _ _ _ (by simp; omega) fun c hcc => ?_⟩
    rcases List.mem_append.mp hcc with z | z
    · exact hc c z
    · exact hmc c (List.mem_of_mem_take z)
structure DoI (bk : Bk) (pre : List Nat) (ρ : Env) : Prop where
  e : ∃ a b, ∃ L : List (Nat × Nat), ∃ x3 x4, ρ = [some (bag a b), some (.dat (.tup (bk.map toRow))), some (.dat (.lst (L.map fun p => D.tup [.int (p.1 : Nat), .int (p.2 : Nat)]))), x3, x4] ∧ L.length ≤ 6 * pre.length ∧ ∀ p ∈ L, ∃ r d, bk[p.1]? = some r ∧ r.2[p.2]? = some d
theorem door_ok {bk : Bk} {a b : Int} (hg : Good bk) {Φ : M → Option M → Prop} (k0 : ∀ a b, Φ (.dat .non) (some (bag a b))) (k : ∀ (to number : Nat) (r : Row) (d : Dr) (a' b' : Int), bk[to]? = some r → r.2[number]? = some d → Φ (.dat (.tup [.int to, .int number])) (some (bag a' b'))) : TF F_law_door [bag a b, .dat (toBk bk)] Φ := by
  have hn := hg.z.n
  refine TF_B rfl ?_
  simp [g_law_door, start0, toBk]
  rw [rng0]
  refine ⟨by omega, T_forM (DoI bk) ?_ ?_ ⟨a, b, [], none, none, rfl, by simp, by simp⟩⟩
  · rintro pre i suf ρ e ⟨a, b, L, x3, x4, rfl, hl, hL⟩
    have hi := in_range e
    have hr : bk[i]? = some bk[i] := List.getElem?_eq_getElem hi
    have hr6 := hg.z.d _ (List.getElem_mem hi)
    have hpl : pre.length ≤ 6 := by have := congrArg List.length e; simp at this; omega
    generalize bk[i] = r at hr hr6
    simp [g_law_door_B1, atI_pos (show (0 : Int) ≤ (i : Int) by omega), hr, toRow]
    rw [rng0]
    refine ⟨by omega, Tp_of (gLcP_all (f := fun n : Nat => D.int (n : Int)) (h := fun n => .tup [.int (i : Nat), .int (n : Nat)]) fun n hn => ?_) ?_⟩
    · simp
    · refine ⟨by simp; omega, by simp; omega, a, b, L ++ (List.range r.2.length).map fun n => (i, n), _, _, by simp; exact ⟨rfl, rfl⟩, by simp; omega, fun p hp => ?_⟩
      rcases List.mem_append.mp hp with z | z
      · exact hL p z
      · obtain ⟨n, hn, rfl⟩ := List.mem_map.mp z
        exact ⟨r, _, hr, List.getElem?_eq_getElem (List.mem_range.mp hn)⟩
  · rintro ρ ⟨a, b, L, x3, x4, rfl, hl, hL⟩
    simp [g_law_door_K1]
    refine ⟨fun _ => k0 a b, fun hne => ?_⟩
    have h0 : 0 < L.length := by
      cases L with
      | nil => simp at hne
      | cons _ _ => simp
    simp at hl
    refine take_ok (by omega) (by omega) fun r a b r0 r1 => ?_
    simp
    refine pickI r0 (by simp; omega) fun x hx => ?_
    obtain ⟨p, hp, rfl⟩ := List.mem_map.mp hx
    obtain ⟨r, d, h1, h2⟩ := hL p hp
    exact k p.1 p.2 r d a b h1 h2
/-! ### the law -/
def KI (ns : List Int) (ρ : Env) : Prop := ∃ x1 x2 x3 x4 x5 x6 x7 x8 x9 x10 x11, ρ = [some (.dat (.scr ns)), x1, x2, x3, x4, x5, x6, x7, x8, x9, x10, x11]
structure KJ (ns : List Int) (bk : Bk) (d : Dr) (to number : Nat) (ρ : Env) : Prop where
  e : ∃ x1 x2 x6 x7 x8 x9 x10 x11, ρ = [some (.dat (.scr ns)), x1, x2, some (.dat (toBk bk)), some (.dat (.tup [.int (to : Nat), .int (number : Nat)])), some (.dat (toDr d)), x6, x7, x8, x9, x10, x11]
theorem turn_ok {ns : List Int} {bk : Bk} {to number : Nat} {r : Row} {d : Dr} {t : List Nat} {x1 x2 x6 x8 x9 x10 x11 : Option M} (hg : Good bk) (hr : bk[to]? = some r) (hd : r.2[number]? = some d) (ht : t.length ≤ 5000) {Φ : Fl → Env → Prop} (k : ∀ ρ, KJ ns bk d to number ρ → Φ .nx ρ) :
    T g_law_B1 [some (.dat (.scr ns)), x1, x2, some (.dat (toBk bk)), some (.dat (.tup [.int (to : Nat), .int (number : Nat)])), some (.dat (toDr d)), x6, some (.dat (.str t)), x8, x9, x10, x11] Φ := by
  have h : DrOk bk d := ⟨r, List.mem_of_getElem? hr, List.mem_of_getElem? hd⟩
  have hh := places_hit (t := t) hg h
  simp [g_law_B1]
  have hwl : (written (escO bk d) (places bk d t) t).length ≤ 20000 := by
    have hi := h.in_ hg
    have hel : (escO bk d).length ≤ 1 := hg.z.e _ (row_in hi.1 hi.2).2
    have hfl := pieces_sum (e := escO bk d) hel (places bk d t) t.zipIdx
    unfold written
    rw [List.length_flatten]
    simp only [List.length_zipIdx] at hfl
    omega
  refine fewest_ok hg h ht (fun h1 h2 => ?_) fun h1 h2 => ?_
  · simp
    rw [rng0]
    refine T_gLc_map (f := fun i : Nat => D.int (i : Int)) (h := fun _ => .lst [.str (sc "NoWay+"), .non]) (fun i _ => ?_) ?_
    · simp
      refine tried_ok hg hr hd ht (fun _ _ => ?_) fun hn => absurd ⟨h1, h2⟩ hn
      simp [noWay, M.view, views]
    · rw [show (List.range 2).map (fun _ : Nat => D.lst [.str (sc "NoWay+"), .non]) = [D.lst [.str (sc "NoWay+"), .non], D.lst [.str (sc "NoWay+"), .non]] from rfl]
      simp
      rw [show fMul (M.dat (D.lst [D.lst [D.str (sc "NoWay+"), D.non]])) (M.dat (D.int 2)) = some (.lst [.dat (D.lst [D.str (sc "NoWay+"), D.non]), .dat (D.lst [D.str (sc "NoWay+"), D.non])]) from rfl]
      have hc : ∀ x ∈ sc "NoWay+", x < 1114112 := by decide
      simp [M.view, views]
      have hpq : peq (D.lst [D.str (sc "NoWay+"), D.non]) (D.lst [D.str (sc "NoWay+"), D.non]) = true := peq_refl (n := 3) (by simp; exact hc)
      rw [hpq]
      exact ⟨hc, fun z => (by cases z), fun _ => k _ ⟨_, _, _, _, _, _, _, _, rfl⟩⟩
  · have hp : escO bk d = [] → places bk d t = [] := fun z => by
      by_cases q : places bk d t = []
      · exact q
      · exact absurd ⟨z, q⟩ h1
    rw [cntP_mask] at h2
    simp
    rw [rng0]
    refine T_gLc_map (f := fun i : Nat => D.int (i : Int)) (h := fun i => .lst [.str [], if i = 0 then .str (written (escO bk d) (places bk d t) t) else .int ((places bk d t).length : Nat)]) (fun i _ => ?_) ?_
    · simp
      refine tried_ok hg hr hd ht (fun z1 z2 => absurd ⟨z1, z2⟩ h1) fun hn => ?_
      by_cases hi : i = 0 <;> simp [M.view, views, hi]
    · rw [show (List.range 2).map (fun i : Nat => D.lst [.str [], if i = 0 then .str (written (escO bk d) (places bk d t) t) else .int ((places bk d t).length : Nat)]) = [D.lst [.str [], .str (written (escO bk d) (places bk d t) t)], D.lst [.str [], .int ((places bk d t).length : Nat)]] from rfl]
      simp
      refine ⟨rfl, Tp_of (a := true) rfl ⟨fun z => (by cases z), fun _ => ?_⟩⟩
      have hW := written_eq (escO bk d) (places bk d t) t
      rw [hW]
      refine unput_ok hg h hh hp ht ?_
      simp
      rw [h2]
      simp
      exact k _ ⟨_, _, _, _, _, _, _, _, rfl⟩
structure GrI (ns : List Int) (bk : Bk) (d : Dr) (to number z : Nat) (x1 x6 x7 x8 x9 x11 : Option M) (ds acc : List D) (ρ : Env) : Prop where
  e : ∃ a b, ∃ ts : List (List Nat), acc = ts.map D.str ∧ ts.length + ds.length = z ∧ (∀ u ∈ ts, u.length ≤ 100) ∧ ρ = [some (.dat (.scr ns)), x1, some (bag a b), some (.dat (toBk bk)), some (.dat (.tup [.int (to : Nat), .int (number : Nat)])), some (.dat (toDr d)), x6, x7, x8, x9, none, x11]
theorem law_true (ns : List Int) : F_law [.dat (.scr ns)] = some (.ok (.dat (.bl true)) none) := by
  refine TF.eq (TF_B rfl ?_)
  simp [g_law, start0]
  have hn : ((if (30 : Int) < ns.length then 30 else (ns.length : Int)) + 2).toNat ≤ 42 := by split <;> omega
  refine ⟨by split <;> omega, ?_⟩
  generalize ((if (30 : Int) < ns.length then 30 else (ns.length : Int)) + 2).toNat = n at hn
  unfold rngD
  refine T_forM (fun _ => KI ns) ?_ (fun _ _ => trivial) ⟨_, _, _, _, _, _, _, _, _, _, _, rfl⟩
  rintro pre x suf ρ e ⟨x1, x2, x3, x4, x5, x6, x7, x8, x9, x10, x11, rfl⟩
  have hx := in_range e
  simp [g_law_B2]
  refine bag_ok (by omega) (by omega) fun a b => ?_
  (try simp)
  refine book_ok fun bk a1 b1 hg => ?_
  (try simp)
  refine door_ok hg (fun a b => ?_) fun to number r d a b hr hd => ?_
  · simp
    exact ⟨_, _, _, _, _, _, _, _, _, _, _, rfl⟩
  · have h : DrOk bk d := ⟨r, List.mem_of_getElem? hr, List.mem_of_getElem? hd⟩
    simp [toBk, atI_pos (show (0 : Int) ≤ (to : Int) by omega), atI_pos (show (0 : Int) ≤ (number : Int) by omega), hr, hd, toRow]
    refine take_ok (by omega) (by omega) fun q a b q0 q1 => ?_
    simp
    generalize hz : (2 + 20 * if q = 0 then (1 : Int) else 0) = z
    have hz22 : 0 ≤ z ∧ z ≤ 22 := by rw [← hz]; split <;> omega
    refine ⟨⟨by omega, by omega⟩, ?_⟩
    refine T_gLc (GrI ns bk d to number z.toNat (some (.dat (.int (x : Nat)))) x6 x7 x8 x9 x11) ?_ ?_ ⟨a, b, [], rfl, by simp [rngD_len], by simp, rfl⟩
    · rintro dd ds acc ρ ⟨a, b, ts, rfl, hl, hts, rfl⟩
      simp
      refine own_text_ok hg h fun t a b htl htc => ?_
      simp
      exact ⟨a, b, ts ++ [t], by simp, by simp at hl ⊢; omega, fun u hu => by
        rcases List.mem_append.mp hu with y | y
        · exact hts u y
        · rw [List.mem_singleton.mp y]; exact htl, rfl⟩
    · rintro acc ρ ⟨a, b, ts, rfl, hl, hts, rfl⟩
      simp at hl
      simp
      refine ⟨by omega, own_text_ok hg h fun t a b htl htc => ?_⟩
      simp
      have hsum : ∀ L : List (List Nat), (∀ u ∈ L, u.length ≤ 100) → (L.map List.length).sum ≤ 100 * L.length := fun L => by
        induction L with
        | nil => simp
        | cons u L ih =>
          intro hu
          have := ih fun v hv => hu v (List.mem_cons_of_mem _ hv)
          have := hu u List.mem_cons_self
          simp
          omega
      have hs := hsum ts hts
      rw [fJoin_strs (ss := ts) rfl, if_pos (by simp only [List.length_nil, Nat.mul_zero]; omega), joinNil]
      simp
      have hjl : ts.flatten.length ≤ 5000 := by rw [List.length_flatten]; omega
      refine T_forL (fun rest ρ => (∀ dd ∈ rest, ∃ t, dd = D.str t ∧ t.length ≤ 5000) ∧ KJ ns bk d to number ρ) ?_ ?_ ⟨?_, ⟨_, _, _, _, _, _, _, _, rfl⟩⟩
      · rintro dd rest ρ ⟨hall, x1, x2, x6, x7, x8, x9, x10, x11, rfl⟩
        obtain ⟨t, rfl, ht⟩ := hall dd List.mem_cons_self
        simp
        exact turn_ok hg hr hd ht fun ρ hk => ⟨fun d h => hall d (List.mem_cons_of_mem _ h), hk⟩
      · rintro ρ ⟨_, x1, x2, x6, x7, x8, x9, x10, x11, rfl⟩
        exact ⟨_, _, _, _, _, _, _, _, _, _, _, rfl⟩
      · intro dd hdd
        simp at hdd
        rcases hdd with rfl | rfl | rfl
        · exact ⟨[], rfl, by simp⟩
        · exact ⟨t, rfl, by omega⟩
        · exact ⟨_, rfl, hjl⟩
end Y
namespace Y
open PySem PySem.Spec PyProof.Rows L2
def topS (i : Nat) : Stmt := PySem.Challenge.pw_tonguenest_k14_whole_put_in_by_fewest_es.main.body.getD i (.Pass ⟨0, 0, 0, 0⟩)
section
variable [TabC] {P : Program} {w : World} {K : Kx} {mg : Str → Option Value} {base : Heap}
abbrev s_law_bag : Stmt := topS 17
abbrev Nlaw_bag : List Str := ["script", "k", "cell", "seed"]
abbrev sc_law_bag : Scope := defScope s_law_bag
theorem fs_law_bag : FnScope Nlaw_bag ["script", "k"] sc_law_bag := ⟨rfl, rfl, rfl, by decide +kernel, rfl, by decide +kernel, by decide +kernel⟩
theorem fn_law_bag (m_len : mg "len" = none) {f : Addr} {fd : FuncData} (F : FunD K.K "_law_bag" "_law_bag" (defArgs s_law_bag) (defBody s_law_bag) (defScope s_law_bag) [] [] f fd) : FnOk P w K.K mg base CX0 1 f fd ["script", "k"] (spM K none F_law_bag) := by
  have sc := fs_law_bag
  refine F.ok sc (fun vs H Q E h => spM.at h) ?_
  intro cdv A outer s H vs Q E hr h
  refine ⟨_, PSs.nox (pss_cons (ps_set (i := 2) sc.nd rfl (.inl rfl) pe_int)
     (pss_cons (ps_if (pt_cmpR op_ltA (pv 1) (pe_callB (r := rLenA K.K) call_len rfl m_len (by decide +kernel) (pa_cons (pv 0) pa_nil)) (nomark _))
     (pss_one (ps_set (i := 2) sc.nd rfl (.inl rfl) (pe_op op_mod (pe_ix (r := rIx K.K) ix_seq (pv 0) (pv 1) (fun _ _ => rfl)) (pe_op op_pow pe_int pe_int))))
     pss_nil)
     (pss_cons (ps_set (i := 3) sc.nd rfl (.inl rfl) (pe_op (r := rAddA K.K) op_addA pe_int (pe_op op_mod (pe_op (r := rAddA K.K) op_addA (pe_op (r := rAddA K.K) op_addA (pe_op (r := rAddA K.K) op_addA (pe_op op_mulA (pe_op op_mod (pv 2) pe_int) pe_int) (pe_op op_mulA (pe_op op_mulA pe_int (pv 1)) (pv 1))) (pe_op op_mulA pe_int (pv 1))) pe_int) pe_int)))
     (pss_cons (ps_if (pt_cmpR op_ltA (pv 2) (pe_op op_pow pe_int pe_int) (nomark _))
     (pss_one (ps_ret (pe_lst (pa_cons pe_int (pa_cons (pv 3) pa_nil)))))
     pss_nil)
     (pss_one (ps_ret (pe_lst (pa_cons (pv 2) (pa_cons (pv 3) pa_nil))))))))), ?_⟩
  exact run_def (np := 2) (N := Nlaw_bag) (g := g_law_bag) (rn_seq (rn_asg (i := 2) rfl (EN.exv (en_int 0)))
     (rn_seq (rn_if (EPT.et (ept_test (EN.ep (en_op p_lt (lp_slot 1).ep (EN.ep (en_cb p_len (eps_cons (lp_slot 0).ep eps_nil)))))))
     (rn_asg (i := 2) rfl (EN.exv (en_op p_mod (EN.ep (en_op p_idx (lp_slot 0).ep (lp_slot 1).ep)) (EN.ep (en_op p_pow (EN.ep (en_int 10)) (EN.ep (en_int 60)))))))
     rn_skip)
     (rn_seq (rn_asg (i := 3) rfl (EN.exv (en_op p_add (EN.ep (en_int 1)) (EN.ep (en_op p_mod (EN.ep (en_op p_add (EN.ep (en_op p_add (EN.ep (en_op p_add (EN.ep (en_op p_mul (EN.ep (en_op p_mod (lp_slot 2).ep (EN.ep (en_int 2147483629)))) (EN.ep (en_int 16807)))) (EN.ep (en_op p_mul (EN.ep (en_op p_mul (EN.ep (en_int 40009)) (lp_slot 1).ep)) (lp_slot 1).ep)))) (EN.ep (en_op p_mul (EN.ep (en_int 7919)) (lp_slot 1).ep)))) (EN.ep (en_int 1009)))) (EN.ep (en_int 2147483645)))))))
     (rn_seq (rn_if (EPT.et (ept_test (EN.ep (en_op p_lt (lp_slot 2).ep (EN.ep (en_op p_pow (EN.ep (en_int 10)) (EN.ep (en_int 18))))))))
     (rn_ret (EN.em (en_lst (pd_cons (EN.ep (en_int 0)) (pd_cons (lp_slot 3).ep pd_nil)))))
     rn_skip)
     (rn_ret (EN.em (en_lst (pd_cons (lp_slot 2).ep (pd_cons (lp_slot 3).ep pd_nil))))))))) (fun i e => by cases e) (spM.at h) (spM.imp ni_law_bag h)
theorem ok_law_bag (m_len : mg "len" = none) (hf : ∃ f fd, FunD K.K "_law_bag" "_law_bag" (defArgs s_law_bag) (defBody s_law_bag) (defScope s_law_bag) [] [] f fd ∧ mg "_law_bag" = some (.ref f)) : DefC P w K.K mg base CX0 "_law_bag" 1 ["script", "k"] (spM K none F_law_bag) := by
  obtain ⟨f, fd, F, gf⟩ := hf
  exact ⟨f, fd, fn_law_bag m_len F, gf, F.kp, (F.bindsN fun _ _ _ _ _ _ us hl => by rcases us with _ | ⟨a0, _ | ⟨a1, _ | ⟨a2, us⟩⟩⟩ <;> first | (simp at hl; done) | rfl)⟩

abbrev s_law_take : Stmt := topS 18
abbrev Nlaw_take : List Str := ["bag", "many", "found"]
abbrev sc_law_take : Scope := defScope s_law_take
theorem fs_law_take : FnScope Nlaw_take ["bag", "many"] sc_law_take := ⟨rfl, rfl, rfl, by decide +kernel, rfl, by decide +kernel, by decide +kernel⟩
theorem fn_law_take  {f : Addr} {fd : FuncData} (F : FunD K.K "_law_take" "_law_take" (defArgs s_law_take) (defBody s_law_take) (defScope s_law_take) [] [] f fd) : FnOk P w K.K mg base CX0 1 f fd ["bag", "many"] (spM K (some 0) F_law_take) := by
  have sc := fs_law_take
  refine F.ok sc (fun vs H Q E h => spM.at h) ?_
  intro cdv A outer s H vs Q E hr h
  refine ⟨_, PSs.nox (pss_cons (ps_if (pt_cmpR op_gtA (pe_ix (r := rIx K.K) ix_seq (pv 0) pe_int (fun _ _ => rfl)) pe_int (nomark _))
     (pss_cons (ps_set (i := 2) sc.nd rfl (.inl rfl) (pe_op op_mod (pe_ix (r := rIx K.K) ix_seq (pv 0) pe_int (fun _ _ => rfl)) (pv 1)))
     (pss_cons (ps_asg (pe_op op_fdiv (pe_ix (r := rIx K.K) ix_seq (pv 0) pe_int (fun _ _ => rfl)) (pv 1)) (pg_sub (pv 0) pe_int set_list))
     (pss_one (ps_ret (pv 2)))))
     pss_nil)
     (pss_cons (ps_asg (pe_op op_mod (pe_op op_mulA (pe_ix (r := rIx K.K) ix_seq (pv 0) pe_int (fun _ _ => rfl)) pe_int) pe_int) (pg_sub (pv 0) pe_int set_list))
     (pss_one (ps_ret (pe_op op_mod (pe_op op_fdiv (pe_op op_mod (pe_op op_mulA (pe_op op_fdiv (pe_ix (r := rIx K.K) ix_seq (pv 0) pe_int (fun _ _ => rfl)) pe_int) (pe_op (r := rAddA K.K) op_addA (pe_op op_mod (pe_ix (r := rIx K.K) ix_seq (pv 0) pe_int (fun _ _ => rfl)) pe_int) pe_int)) pe_int) pe_int) (pv 1)))))), ?_⟩
  exact run_def (np := 2) (N := Nlaw_take) (g := g_law_take) (rn_seq (rn_if (EPT.et (ept_test (EN.ep (en_op p_gt (EN.ep (en_op p_idx (lp_slot 0).ep (EN.ep (en_int 0)))) (EN.ep (en_int 0))))))
     (rn_seq (rn_asg (i := 2) rfl (EN.exv (en_op p_mod (EN.ep (en_op p_idx (lp_slot 0).ep (EN.ep (en_int 0)))) (lp_slot 1).ep)))
     (rn_seq (rn_setI (EN.exv (en_op p_div (EN.ep (en_op p_idx (lp_slot 0).ep (EN.ep (en_int 0)))) (lp_slot 1).ep)) (lp_slot 0) (EN.ep (en_int 0)))
     (rn_ret (EX.em (EP.ex (lp_slot 2).ep)))))
     rn_skip)
     (rn_seq (rn_setI (EN.exv (en_op p_mod (EN.ep (en_op p_mul (EN.ep (en_op p_idx (lp_slot 0).ep (EN.ep (en_int 1)))) (EN.ep (en_int 48271)))) (EN.ep (en_int 2147483647)))) (lp_slot 0) (EN.ep (en_int 1)))
     (rn_ret (EN.em (en_op p_mod (EN.ep (en_op p_div (EN.ep (en_op p_mod (EN.ep (en_op p_mul (EN.ep (en_op p_div (EN.ep (en_op p_idx (lp_slot 0).ep (EN.ep (en_int 1)))) (EN.ep (en_int 13)))) (EN.ep (en_op p_add (EN.ep (en_op p_mod (EN.ep (en_op p_idx (lp_slot 0).ep (EN.ep (en_int 1)))) (EN.ep (en_int 32749)))) (EN.ep (en_int 17)))))) (EN.ep (en_int 2147483629)))) (EN.ep (en_int 32)))) (lp_slot 1).ep))))) (fun i e => by cases e; decide) (spM.at h) (spM.imp ni_law_take h)
theorem ok_law_take  (hf : ∃ f fd, FunD K.K "_law_take" "_law_take" (defArgs s_law_take) (defBody s_law_take) (defScope s_law_take) [] [] f fd ∧ mg "_law_take" = some (.ref f)) : DefC P w K.K mg base CX0 "_law_take" 1 ["bag", "many"] (spM K (some 0) F_law_take) := by
  obtain ⟨f, fd, F, gf⟩ := hf
  exact ⟨f, fd, fn_law_take  F, gf, F.kp, (F.bindsN fun _ _ _ _ _ _ us hl => by rcases us with _ | ⟨a0, _ | ⟨a1, _ | ⟨a2, us⟩⟩⟩ <;> first | (simp at hl; done) | rfl)⟩

abbrev s_law_mark : Stmt := topS 19
abbrev Nlaw_mark : List Str := ["bag", "signs", "found", "turn"]
abbrev sc_law_mark : Scope := defScope s_law_mark
theorem fs_law_mark : FnScope Nlaw_mark ["bag", "signs"] sc_law_mark := ⟨rfl, rfl, rfl, by decide +kernel, rfl, by decide +kernel, by decide +kernel⟩
theorem fn_law_mark (m_range : mg "range" = none) (c_law_take : DefC P w K.K mg base CX0 "_law_take" 1 ["bag", "many"] (spM K (some 0) F_law_take)) (m_len : mg "len" = none) {f : Addr} {fd : FuncData} (F : FunD K.K "_law_mark" "_law_mark" (defArgs s_law_mark) (defBody s_law_mark) (defScope s_law_mark) [] [] f fd) : FnOk P w K.K mg base CX0 2 f fd ["bag", "signs"] (spM K (some 0) F_law_mark) := by
  have sc := fs_law_mark
  refine F.ok sc (fun vs H Q E h => spM.at h) ?_
  intro cdv A outer s H vs Q E hr h
  refine ⟨_, PSs.nox (pss_cons (ps_set (i := 2) sc.nd rfl (.inl rfl) pe_str)
     (pss_cons (ps_for PassesOwn.never rfl (pi_range1 rfl m_range (pa_cons (pe_op (r := rAddA K.K) op_addA pe_int (pe_ix (r := rIx K.K) ix_seq (pe_lst (pa_cons pe_int (pa_cons pe_int (pa_cons pe_int (pa_cons (pe_c c_law_take hr (by decide) rfl pass0 (pa_cons (pv 0) (pa_cons pe_int pa_nil))) pa_nil))))) (pe_c c_law_take hr (by decide) rfl pass0 (pa_cons (pv 0) (pa_cons pe_int pa_nil))) (fun _ _ => rfl))) pa_nil)) (pg_name (i := 3) sc.nd rfl (.inl rfl))
     (pss_one (ps_set (i := 2) sc.nd rfl (.inl rfl) (pe_op (r := rAddA K.K) op_addA (pv 2) (pe_ix (r := rIx K.K) ix_seq (pv 1) (pe_c c_law_take hr (by decide) rfl pass0 (pa_cons (pv 0) (pa_cons (pe_callB (r := rLenA K.K) call_len rfl m_len (by decide +kernel) (pa_cons (pv 1) pa_nil)) pa_nil))) (fun _ _ => rfl))))))
     (pss_one (ps_ret (pv 2))))), ?_⟩
  exact run_def (np := 2) (N := Nlaw_mark) (g := g_law_mark) (rn_seq (rn_asg (i := 2) rfl (EN.exv (en_str "")))
     (rn_seq (rn_for (ji_rng1 (exs_cons (EM.ex (em_op p_add (EN.exv (en_int 1)) (EM.ex (em_op p_idx (EM.ex (em_lst (exs_cons (EN.exv (en_int 0)) (exs_cons (EN.exv (en_int 0)) (exs_cons (EN.exv (en_int 1)) (exs_cons (EM.ex (em_callS (calm := true) (j := 0) (.inl rfl) (as_here (i := 0) (exs_cons (EN.exv (en_int 4)) exs_nil)))) exs_nil)))))) (EM.ex (em_callS (calm := true) (j := 0) (.inl rfl) (as_here (i := 0) (exs_cons (EN.exv (en_int 4)) exs_nil)))))))) exs_nil)) (jt_name (i := 3) rfl)
     (rn_asg (i := 2) rfl (EM.ex (em_op p_add (EP.ex (lp_slot 2).ep) (EM.ex (em_op p_idx (EP.ex (lp_slot 1).ep) (EM.ex (em_callS (calm := true) (j := 0) (.inl rfl) (as_here (i := 0) (exs_cons (EN.exv (en_cb p_len (eps_cons (lp_slot 1).ep eps_nil))) exs_nil))))))))))
     (rn_ret (EX.em (EP.ex (lp_slot 2).ep))))) (fun i e => by cases e; decide) (spM.at h) (spM.imp ni_law_mark h)
theorem ok_law_mark (m_range : mg "range" = none) (c_law_take : DefC P w K.K mg base CX0 "_law_take" 1 ["bag", "many"] (spM K (some 0) F_law_take)) (m_len : mg "len" = none) (hf : ∃ f fd, FunD K.K "_law_mark" "_law_mark" (defArgs s_law_mark) (defBody s_law_mark) (defScope s_law_mark) [] [] f fd ∧ mg "_law_mark" = some (.ref f)) : DefC P w K.K mg base CX0 "_law_mark" 2 ["bag", "signs"] (spM K (some 0) F_law_mark) := by
  obtain ⟨f, fd, F, gf⟩ := hf
  exact ⟨f, fd, fn_law_mark m_range c_law_take m_len F, gf, F.kp, (F.bindsN fun _ _ _ _ _ _ us hl => by rcases us with _ | ⟨a0, _ | ⟨a1, _ | ⟨a2, us⟩⟩⟩ <;> first | (simp at hl; done) | rfl)⟩

abbrev s_law_fits_book : Stmt := topS 20
abbrev Nlaw_fits_book : List Str := ["book", "escape", "doors", "other", "more", "some", "door", "one"]
abbrev sc_law_fits_book : Scope := defScope s_law_fits_book
theorem fs_law_fits_book : FnScope Nlaw_fits_book ["book"] sc_law_fits_book := ⟨rfl, rfl, rfl, by decide +kernel, rfl, by decide +kernel, by decide +kernel⟩
theorem fn_law_fits_book (m_len : mg "len" = none) (m_set : mg "set" = none) {f : Addr} {fd : FuncData} (F : FunD K.K "_law_fits_book" "_law_fits_book" (defArgs s_law_fits_book) (defBody s_law_fits_book) (defScope s_law_fits_book) [] [] f fd) : FnOk P w K.K mg base CX0 1 f fd ["book"] (spM K none F_law_fits_book) := by
  have sc := fs_law_fits_book
  refine F.ok sc (fun vs H Q E h => spM.at h) ?_
  intro cdv A outer s H vs Q E hr h
  refine ⟨_, PSs.nox (pss_cons (ps_for PassesOwn.never rfl (show PI _ _ _ (iAny K.K _) from pi_any (pv 0)) (show PG _ _ (gTup K.K 2 _) from pg_tup rfl (pgs_cons (pg_name (i := 1) sc.nd rfl (.inr rfl)) (pgs_cons (pg_name (i := 2) sc.nd rfl (.inl rfl)) pgs_nil)))
     (pss_cons (ps_for PassesOwn.never rfl (show PI _ _ _ (iAny K.K _) from pi_any (pv 0)) (show PG _ _ (gTup K.K 2 _) from pg_tup rfl (pgs_cons (pg_name (i := 3) sc.nd rfl (.inl rfl)) (pgs_cons (pg_name (i := 4) sc.nd rfl (.inl rfl)) pgs_nil)))
     (pss_cons (ps_setLc (own := [("door", 6)]) (i := 5) rfl sc.nd rfl rfl (sw_true rfl rfl rfl (by decide +kernel)) (show PI _ _ _ (iAny K.K _) from pi_any (pv 4)) (blkOk_by (N := Nlaw_fits_book) (sc := sc_law_fits_book) (by decide +kernel)) (fun _ _ _ _ _ => (pg_name (i := 6) sc.nd rfl (by first | exact .inl rfl | exact .inr rfl))) (fun _ _ _ _ _ => (pts_one (pt_cmpR (r := rInA K.K) (op_inA (hu65 hr)) (pv 1) (pe_op (r := rAddA K.K) op_addA (pe_op (r := rAddA K.K) op_addA (pe_ix (r := rIx K.K) ix_seq (pv 6) pe_int (fun _ _ => rfl)) pe_str) (pe_ix (r := rIx K.K) ix_seq (pv 6) pe_int (fun _ _ => rfl))) rfl))) (fun _ _ _ _ _ => (pv 6)))
     (pss_one (ps_if (PW.pt (pw_and (pt_cmpR (r := rNeA K.K) (op_neA (hu64 hr)) (pv 1) pe_str (nomark _)) (pw_and1 (pt_cmpR (r := rNeA K.K) (op_neA (hu64 hr)) (pv 5) (pe_lst pa_nil) (nomark _)))))
     (pss_one (ps_ret pe_bl))
     pss_nil))))
     (pss_cons (ps_if (pt_cmpR (r := rNeA K.K) (op_neA (hu64 hr)) (show PE _ _ (tUn (rLenSet K.K) _) from pe_lenSets rfl rfl m_len rfl m_set (pe_lc (own := [("door", 6)]) rfl sc.nd (show PI _ _ _ (iAny K.K _) from pi_any (pv 2)) (blkOk_by (N := Nlaw_fits_book) (sc := sc_law_fits_book) (by decide +kernel)) (fun _ _ _ _ _ => (pg_name (i := 6) sc.nd rfl (by first | exact .inl rfl | exact .inr rfl))) (fun _ _ _ _ _ => pts_nil) (fun _ _ _ _ _ => (pe_ix (r := rIx K.K) ix_seq (pv 6) pe_int (fun _ _ => rfl))))) (pe_callB (r := rLenA K.K) call_len rfl m_len (by decide +kernel) (pa_cons (pv 2) pa_nil)) (nomark _))
     (pss_one (ps_ret pe_bl))
     pss_nil)
     (pss_one (ps_for PassesOwn.never rfl (show PI _ _ _ (iAny K.K _) from pi_any (pv 2)) (pg_name (i := 6) sc.nd rfl (.inr rfl))
     (pss_one (ps_if (pt_cmpR (r := rNeA K.K) (op_neA (hu64 hr)) (pe_lc (own := [("one", 7)]) rfl sc.nd (show PI _ _ _ (iAny K.K _) from pi_any (pe_ix (r := rIx K.K) ix_seq (pe_ix (r := rIx K.K) ix_seq (pv 0) (pe_ix (r := rIx K.K) ix_seq (pv 6) pe_int (fun _ _ => rfl)) (fun _ _ => rfl)) pe_int (fun _ _ => rfl))) (blkOk_by (N := Nlaw_fits_book) (sc := sc_law_fits_book) (by decide +kernel)) (fun _ _ _ _ _ => (pg_name (i := 7) sc.nd rfl (by first | exact .inl rfl | exact .inr rfl))) (fun _ _ _ _ _ => (pts_one (pt_val (pe_m1 PySem.F.slot_str_startswith PySem.F.type_str_startswith mt_startswith (pe_ix (r := rIx K.K) ix_seq (pv 7) pe_int (fun _ _ => rfl)) (pe_ix (r := rIx K.K) ix_seq (pv 6) pe_int (fun _ _ => rfl)))))) (fun _ _ _ _ _ => (pv 7))) (pe_lst pa_nil) (nomark _))
     (pss_one (ps_ret pe_bl))
     pss_nil)))))))
     (pss_one (ps_ret pe_bl))), ?_⟩
  exact run_def (np := 1) (N := Nlaw_fits_book) (g := g_law_fits_book) (rn_seq (rn_for (ji_any (EP.ex (lp_slot 0).ep)) (jt_tup (n := 2) (jts_cons (jt_name (i := 1) rfl) (jts_cons (jt_name (i := 2) rfl) jts_nil)))
     (rn_seq (rn_for (ji_any (EP.ex (lp_slot 0).ep)) (jt_tup (n := 2) (jts_cons (jt_name (i := 3) rfl) (jts_cons (jt_name (i := 4) rfl) jts_nil)))
     (rn_seq (rn_asg (i := 5) rfl (EN.exv (en_comp (jip_any (lp_slot 4).ep) (jt_name (i := 6) (by decide)) (ept_test (EN.ep (en_op p_in (lp_slot 1).ep (EN.ep (en_op p_add (EN.ep (en_op p_add (EN.ep (en_op p_idx (lp_slot 6).ep (EN.ep (en_int 0)))) (EN.ep (en_str " ")))) (EN.ep (en_op p_idx (lp_slot 6).ep (EN.ep (en_int 2))))))))) (lp_slot 6).ep)))
     (rn_if (EPT.et (ept_and (ept_test (EN.ep (en_op p_ne (lp_slot 1).ep (EN.ep (en_str ""))))) (ept_test (EN.ep (en_op p_ne (lp_slot 5).ep (EN.ep (en_lst pd_nil)))))))
     (rn_ret (EN.em (en_bl false)))
     rn_skip)))
     (rn_seq (rn_if (EPT.et (ept_test (EN.ep (en_op p_ne (EN.ep (en_un p_lenSet (EN.ep (en_comp (jip_any (lp_slot 2).ep) (jt_name (i := 6) (by decide)) ept_yes (EN.ep (en_op p_idx (lp_slot 6).ep (EN.ep (en_int 0)))))))) (EN.ep (en_cb p_len (eps_cons (lp_slot 2).ep eps_nil)))))))
     (rn_ret (EN.em (en_bl false)))
     rn_skip)
     (rn_for (ji_any (EP.ex (lp_slot 2).ep)) (jt_name (i := 6) rfl)
     (rn_if (EPT.et (ept_test (EN.ep (en_op p_ne (EN.ep (en_comp (jip_any (EN.ep (en_op p_idx (EN.ep (en_op p_idx (lp_slot 0).ep (EN.ep (en_op p_idx (lp_slot 6).ep (EN.ep (en_int 1)))))) (EN.ep (en_int 1))))) (jt_name (i := 7) (by decide)) (ept_B (EN.ep (en_m1 sm_starts (EN.ep (en_op p_idx (lp_slot 7).ep (EN.ep (en_int 0)))) (EN.ep (en_op p_idx (lp_slot 6).ep (EN.ep (en_int 2))))))) (lp_slot 7).ep)) (EN.ep (en_lst pd_nil))))))
     (rn_ret (EN.em (en_bl false)))
     rn_skip)))))
     (rn_ret (EN.em (en_bl true)))) (fun i e => by cases e) (spM.at h) (spM.imp ni_law_fits_book h)
theorem ok_law_fits_book (m_len : mg "len" = none) (m_set : mg "set" = none) (hf : ∃ f fd, FunD K.K "_law_fits_book" "_law_fits_book" (defArgs s_law_fits_book) (defBody s_law_fits_book) (defScope s_law_fits_book) [] [] f fd ∧ mg "_law_fits_book" = some (.ref f)) : DefC P w K.K mg base CX0 "_law_fits_book" 1 ["book"] (spM K none F_law_fits_book) := by
  obtain ⟨f, fd, F, gf⟩ := hf
  exact ⟨f, fd, fn_law_fits_book m_len m_set F, gf, F.kp, (F.bindsN fun _ _ _ _ _ _ us hl => by rcases us with _ | ⟨a0, _ | ⟨a1, us⟩⟩ <;> first | (simp at hl; done) | rfl)⟩

abbrev s_law_book : Stmt := topS 21
abbrev Nlaw_book : List Str := ["bag", "signs", "escapes", "many", "book", "turn", "at", "door", "more", "tongue"]
abbrev sc_law_book : Scope := defScope s_law_book
theorem fs_law_book : FnScope Nlaw_book ["bag"] sc_law_book := ⟨rfl, rfl, rfl, by decide +kernel, rfl, by decide +kernel, by decide +kernel⟩
theorem fn_law_book (c_law_take : DefC P w K.K mg base CX0 "_law_take" 1 ["bag", "many"] (spM K (some 0) F_law_take)) (m_range : mg "range" = none) (c_law_mark : DefC P w K.K mg base CX0 "_law_mark" 2 ["bag", "signs"] (spM K (some 0) F_law_mark)) (m_list : mg "list" = none) (c_law_fits_book : DefC P w K.K mg base CX0 "_law_fits_book" 1 ["book"] (spM K none F_law_fits_book)) (m_len : mg "len" = none) (m_tuple : mg "tuple" = none) {f : Addr} {fd : FuncData} (F : FunD K.K "_law_book" "_law_book" (defArgs s_law_book) (defBody s_law_book) (defScope s_law_book) [] [] f fd) : FnOk P w K.K mg base CX0 3 f fd ["bag"] (spM K (some 0) F_law_book) := by
  have sc := fs_law_book
  refine F.ok sc (fun vs H Q E h => spM.at h) ?_
  intro cdv A outer s H vs Q E hr h
  refine ⟨_, PSs.nox (pss_cons (ps_set (i := 1) sc.nd rfl (.inl rfl) (pe_ix (r := rIx K.K) ix_seq (pe_lst (pa_cons pe_str (pa_cons pe_str (pa_cons pe_str (pa_cons pe_str pa_nil))))) (pe_c c_law_take hr (by decide) rfl pass0 (pa_cons (pv 0) (pa_cons pe_int pa_nil))) (fun _ _ => rfl)))
     (pss_cons (ps_set (i := 2) sc.nd rfl (.inr rfl) (pe_ix (r := rIx K.K) ix_seq (pe_lst (pa_cons pe_str (pa_cons pe_str (pa_cons pe_str (pa_cons pe_str pa_nil))))) (pe_c c_law_take hr (by decide) rfl pass0 (pa_cons (pv 0) (pa_cons pe_int pa_nil))) (fun _ _ => rfl)))
     (pss_cons (ps_set (i := 3) sc.nd rfl (.inl rfl) (pe_op (r := rAddA K.K) op_addA pe_int (pe_c c_law_take hr (by decide) rfl pass0 (pa_cons (pv 0) (pa_cons (pe_ix (r := rIx K.K) ix_seq (pe_lst (pa_cons pe_int (pa_cons pe_int (pa_cons pe_int pa_nil)))) (pe_c c_law_take hr (by decide) rfl pass0 (pa_cons (pv 0) (pa_cons pe_int pa_nil))) (fun _ _ => rfl)) pa_nil)))))
     (pss_cons (ps_setLc (own := [("tongue", 9)]) (i := 4) rfl sc.nd rfl rfl (sw_true rfl rfl rfl (by decide +kernel)) (pi_range1 rfl m_range (pa_cons (pv 3) pa_nil)) (blkOk_by (N := Nlaw_book) (sc := sc_law_book) (by decide +kernel)) (fun _ _ _ _ _ => (pg_name (i := 9) sc.nd rfl (by first | exact .inl rfl | exact .inr rfl))) (fun _ _ _ _ _ => pts_nil) (fun _ _ _ _ _ => (pe_tup (pa_cons (pe_ix (r := rIx K.K) ix_seq (pe_lst (pa_cons (pv 2) (pa_cons pe_str (pa_cons pe_str pa_nil)))) (pe_c c_law_take hr (by decide) rfl pass0 (pa_cons (pv 0) (pa_cons pe_int pa_nil))) (fun _ _ => rfl)) (pa_cons (pe_tup pa_nil) pa_nil)))))
     (pss_cons (ps_for PassesOwn.never rfl (pi_range1 rfl m_range (pa_cons (pe_op (r := rAddA K.K) op_addA pe_int (pe_c c_law_take hr (by decide) rfl pass0 (pa_cons (pv 0) (pa_cons (pe_op op_mulA pe_int (pv 3)) pa_nil)))) pa_nil)) (pg_name (i := 5) sc.nd rfl (.inl rfl))
     (pss_cons (ps_set (i := 6) sc.nd rfl (.inl rfl) (pe_ix (r := rIx K.K) ix_seq (pe_lst (pa_cons pe_int (pa_cons (pe_c c_law_take hr (by decide) rfl pass0 (pa_cons (pv 0) (pa_cons (pv 3) pa_nil))) pa_nil))) (pe_c c_law_take hr (by decide) rfl pass0 (pa_cons (pv 0) (pa_cons pe_int pa_nil))) (fun _ _ => rfl)))
     (pss_cons (ps_set (i := 7) sc.nd rfl (.inl rfl) (pe_tup (pa_cons (pe_c c_law_mark hr (by decide) rfl pass0 (pa_cons (pv 0) (pa_cons (pv 1) pa_nil))) (pa_cons (pe_c c_law_take hr (by decide) rfl pass0 (pa_cons (pv 0) (pa_cons (pv 3) pa_nil))) (pa_cons (pe_c c_law_mark hr (by decide) rfl pass0 (pa_cons (pv 0) (pa_cons (pv 1) pa_nil))) pa_nil)))))
     (pss_cons (ps_set (i := 8) sc.nd rfl (.inl rfl) (pe_callTy (r := rListOf K.K) call_list_of rfl m_list (by decide +kernel) (pa_cons (pv 4) pa_nil)))
     (pss_cons (ps_asg (pe_tup (pa_cons (pe_ix (r := rIx K.K) ix_seq (pe_ix (r := rIx K.K) ix_seq (pv 4) (pv 6) (fun _ _ => rfl)) pe_int (fun _ _ => rfl)) (pa_cons (pe_op (r := rAddA K.K) op_addA (pe_ix (r := rIx K.K) ix_seq (pe_ix (r := rIx K.K) ix_seq (pv 4) (pv 6) (fun _ _ => rfl)) pe_int (fun _ _ => rfl)) (pe_tup (pa_cons (pv 7) pa_nil))) pa_nil))) (pg_sub (pv 8) (pv 6) set_list))
     (pss_one (ps_if (PW.pt (pw_and (pt_cmpR op_ltA (pe_callB (r := rLenA K.K) call_len rfl m_len (by decide +kernel) (pa_cons (pe_ix (r := rIx K.K) ix_seq (pe_ix (r := rIx K.K) ix_seq (pv 4) (pv 6) (fun _ _ => rfl)) pe_int (fun _ _ => rfl)) pa_nil)) pe_int (nomark _)) (pw_and1 (pt_val (pe_c c_law_fits_book hr (by decide) rfl pass0 (pa_cons (pv 8) pa_nil))))))
     (pss_one (ps_set (i := 4) sc.nd rfl (.inl rfl) (pv 8)))
     pss_nil)))))))
     (pss_one (ps_ret (pe_callTy (r := rTupOf K.K) call_tuple_of rfl m_tuple (by decide +kernel) (pa_cons (pv 4) pa_nil))))))))), ?_⟩
  exact run_def (np := 1) (N := Nlaw_book) (g := g_law_book) (rn_seq (rn_asg (i := 1) rfl (EM.ex (em_op p_idx (EN.exv (en_lst (pd_cons (EN.ep (en_str "ab")) (pd_cons (EN.ep (en_str "ab<>")) (pd_cons (EN.ep (en_str "abc\"{}*/-\n")) (pd_cons (EN.ep (en_str "\n#\"'({[<ab`")) pd_nil)))))) (EM.ex (em_callS (calm := true) (j := 0) (.inl rfl) (as_here (i := 0) (exs_cons (EN.exv (en_int 4)) exs_nil)))))))
     (rn_seq (rn_asg (i := 2) rfl (EM.ex (em_op p_idx (EN.exv (en_lst (pd_cons (EN.ep (en_str "")) (pd_cons (EN.ep (en_str "\\")) (pd_cons (EN.ep (en_str "~")) (pd_cons (EN.ep (en_str "^")) pd_nil)))))) (EM.ex (em_callS (calm := true) (j := 0) (.inl rfl) (as_here (i := 0) (exs_cons (EN.exv (en_int 4)) exs_nil)))))))
     (rn_seq (rn_asg (i := 3) rfl (EM.ex (em_op p_add (EN.exv (en_int 1)) (EM.ex (em_callS (calm := true) (j := 0) (.inl rfl) (as_here (i := 0) (exs_cons (EM.ex (em_op p_idx (EN.exv (en_lst (pd_cons (EN.ep (en_int 2)) (pd_cons (EN.ep (en_int 4)) (pd_cons (EN.ep (en_int 6)) pd_nil))))) (EM.ex (em_callS (calm := true) (j := 0) (.inl rfl) (as_here (i := 0) (exs_cons (EN.exv (en_int 3)) exs_nil)))))) exs_nil)))))))
     (rn_seq (rn_asg (i := 4) rfl (EM.ex (em_comp (ji_rng1 (exs_cons (EP.ex (lp_slot 3).ep) exs_nil)) (jt_name (i := 9) (by decide)) et_yes (ex_tup (exs_cons (EM.ex (em_op p_idx (EN.exv (en_lst (pd_cons (lp_slot 2).ep (pd_cons (EN.ep (en_str "")) (pd_cons (EN.ep (en_str "\\")) pd_nil))))) (EM.ex (em_callS (calm := true) (j := 0) (.inl rfl) (as_here (i := 0) (exs_cons (EN.exv (en_int 3)) exs_nil)))))) (exs_cons (EN.exv (en_tup pd_nil)) exs_nil))))))
     (rn_seq (rn_for (ji_rng1 (exs_cons (EM.ex (em_op p_add (EN.exv (en_int 2)) (EM.ex (em_callS (calm := true) (j := 0) (.inl rfl) (as_here (i := 0) (exs_cons (EN.exv (en_op p_mul (EN.ep (en_int 3)) (lp_slot 3).ep)) exs_nil)))))) exs_nil)) (jt_name (i := 5) rfl)
     (rn_seq (rn_asg (i := 6) rfl (EM.ex (em_op p_idx (EM.ex (em_lst (exs_cons (EN.exv (en_int 0)) (exs_cons (EM.ex (em_callS (calm := true) (j := 0) (.inl rfl) (as_here (i := 0) (exs_cons (EP.ex (lp_slot 3).ep) exs_nil)))) exs_nil)))) (EM.ex (em_callS (calm := true) (j := 0) (.inl rfl) (as_here (i := 0) (exs_cons (EN.exv (en_int 2)) exs_nil)))))))
     (rn_seq (rn_asg (i := 7) rfl (ex_tup (exs_cons (EM.ex (em_callS (calm := true) (j := 0) (.inl rfl) (as_here (i := 0) (exs_cons (EP.ex (lp_slot 1).ep) exs_nil)))) (exs_cons (EM.ex (em_callS (calm := true) (j := 0) (.inl rfl) (as_here (i := 0) (exs_cons (EP.ex (lp_slot 3).ep) exs_nil)))) (exs_cons (EM.ex (em_callS (calm := true) (j := 0) (.inl rfl) (as_here (i := 0) (exs_cons (EP.ex (lp_slot 1).ep) exs_nil)))) exs_nil)))))
     (rn_seq (rn_asgM (i := 8) rfl (EN.em (en_cb p_list (eps_cons (lp_slot 4).ep eps_nil))))
     (rn_seq (rn_setI (EN.exv (en_tup (pd_cons (EN.ep (en_op p_idx (EN.ep (en_op p_idx (lp_slot 4).ep (lp_slot 6).ep)) (EN.ep (en_int 0)))) (pd_cons (EN.ep (en_op p_add (EN.ep (en_op p_idx (EN.ep (en_op p_idx (lp_slot 4).ep (lp_slot 6).ep)) (EN.ep (en_int 1)))) (EN.ep (en_tup (pd_cons (lp_slot 7).ep pd_nil))))) pd_nil)))) (lp_slot 8) (lp_slot 6).ep)
     (rn_if (et_and (EPT.et (ept_test (EN.ep (en_op p_lt (EN.ep (en_cb p_len (eps_cons (EN.ep (en_op p_idx (EN.ep (en_op p_idx (lp_slot 4).ep (lp_slot 6).ep)) (EN.ep (en_int 1)))) eps_nil))) (EN.ep (en_int 6)))))) (et_B (EM.ex (em_call (calm := true) (.inl rfl) (exs_cons (ex_frz 8) exs_nil)))))
     (rn_asg (i := 4) rfl (ex_frz 8))
     rn_skip))))))
     (rn_ret (EN.em (en_cb p_tuple (eps_cons (lp_slot 4).ep eps_nil))))))))) (fun i e => by cases e; decide) (spM.at h) (spM.imp ni_law_book h)
theorem ok_law_book (c_law_take : DefC P w K.K mg base CX0 "_law_take" 1 ["bag", "many"] (spM K (some 0) F_law_take)) (m_range : mg "range" = none) (c_law_mark : DefC P w K.K mg base CX0 "_law_mark" 2 ["bag", "signs"] (spM K (some 0) F_law_mark)) (m_list : mg "list" = none) (c_law_fits_book : DefC P w K.K mg base CX0 "_law_fits_book" 1 ["book"] (spM K none F_law_fits_book)) (m_len : mg "len" = none) (m_tuple : mg "tuple" = none) (hf : ∃ f fd, FunD K.K "_law_book" "_law_book" (defArgs s_law_book) (defBody s_law_book) (defScope s_law_book) [] [] f fd ∧ mg "_law_book" = some (.ref f)) : DefC P w K.K mg base CX0 "_law_book" 3 ["bag"] (spM K (some 0) F_law_book) := by
  obtain ⟨f, fd, F, gf⟩ := hf
  exact ⟨f, fd, fn_law_book c_law_take m_range c_law_mark m_list c_law_fits_book m_len m_tuple F, gf, F.kp, (F.bindsN fun _ _ _ _ _ _ us hl => by rcases us with _ | ⟨a0, _ | ⟨a1, us⟩⟩ <;> first | (simp at hl; done) | rfl)⟩

abbrev s_law_door : Stmt := topS 24
abbrev Nlaw_door : List Str := ["bag", "book", "some", "tongue", "number"]
abbrev sc_law_door : Scope := defScope s_law_door
theorem fs_law_door : FnScope Nlaw_door ["bag", "book"] sc_law_door := ⟨rfl, rfl, rfl, by decide +kernel, rfl, by decide +kernel, by decide +kernel⟩
theorem fn_law_door (m_range : mg "range" = none) (m_len : mg "len" = none) (c_law_take : DefC P w K.K mg base CX0 "_law_take" 1 ["bag", "many"] (spM K (some 0) F_law_take)) {f : Addr} {fd : FuncData} (F : FunD K.K "_law_door" "_law_door" (defArgs s_law_door) (defBody s_law_door) (defScope s_law_door) [] [] f fd) : FnOk P w K.K mg base CX0 2 f fd ["bag", "book"] (spM K (some 0) F_law_door) := by
  have sc := fs_law_door
  refine F.ok sc (fun vs H Q E h => spM.at h) ?_
  intro cdv A outer s H vs Q E hr h
  refine ⟨_, PSs.nox (pss_cons (ps_set (i := 2) sc.nd rfl (.inl rfl) (pe_lst pa_nil))
     (pss_cons (ps_for PassesOwn.never rfl (pi_range1 rfl m_range (pa_cons (pe_callB (r := rLenA K.K) call_len rfl m_len (by decide +kernel) (pa_cons (pv 1) pa_nil)) pa_nil)) (pg_name (i := 3) sc.nd rfl (.inr rfl))
     (pss_one (ps_set (i := 2) sc.nd rfl (.inl rfl) (pe_op (r := rAddA K.K) op_addA (pv 2) (pe_lc (own := [("number", 4)]) rfl sc.nd (pi_range1 rfl m_range (pa_cons (pe_callB (r := rLenA K.K) call_len rfl m_len (by decide +kernel) (pa_cons (pe_ix (r := rIx K.K) ix_seq (pe_ix (r := rIx K.K) ix_seq (pv 1) (pv 3) (fun _ _ => rfl)) pe_int (fun _ _ => rfl)) pa_nil)) pa_nil)) (blkOk_by (N := Nlaw_door) (sc := sc_law_door) (by decide +kernel)) (fun _ _ _ _ _ => (pg_name (i := 4) sc.nd rfl (by first | exact .inl rfl | exact .inr rfl))) (fun _ _ _ _ _ => pts_nil) (fun _ _ _ _ _ => (pe_tup (pa_cons (pv 3) (pa_cons (pv 4) pa_nil)))))))))
     (pss_cons (ps_if (pt_cmpR (r := rEqA K.K) (op_eqA (hu64 hr)) (pv 2) (pe_lst pa_nil) (nomark _))
     (pss_one (ps_ret pe_non))
     pss_nil)
     (pss_one (ps_ret (pe_ix (r := rIx K.K) ix_seq (pv 2) (pe_c c_law_take hr (by decide) rfl pass0 (pa_cons (pv 0) (pa_cons (pe_callB (r := rLenA K.K) call_len rfl m_len (by decide +kernel) (pa_cons (pv 2) pa_nil)) pa_nil))) (fun _ _ => rfl))))))), ?_⟩
  exact run_def (np := 2) (N := Nlaw_door) (g := g_law_door) (rn_seq (rn_asg (i := 2) rfl (EN.exv (en_lst pd_nil)))
     (rn_seq (rn_for (ji_rng1 (exs_cons (EN.exv (en_cb p_len (eps_cons (lp_slot 1).ep eps_nil))) exs_nil)) (jt_name (i := 3) rfl)
     (rn_asg (i := 2) rfl (EN.exv (en_op p_add (lp_slot 2).ep (EN.ep (en_comp (jip_rng1 (pd_cons (EN.ep (en_cb p_len (eps_cons (EN.ep (en_op p_idx (EN.ep (en_op p_idx (lp_slot 1).ep (lp_slot 3).ep)) (EN.ep (en_int 1)))) eps_nil))) pd_nil)) (jt_name (i := 4) (by decide)) ept_yes (EN.ep (en_tup (pd_cons (lp_slot 3).ep (pd_cons (lp_slot 4).ep pd_nil))))))))))
     (rn_seq (rn_if (EPT.et (ept_test (EN.ep (en_op p_eq (lp_slot 2).ep (EN.ep (en_lst pd_nil))))))
     (rn_ret (EN.em en_non))
     rn_skip)
     (rn_ret (em_op p_idx (EP.ex (lp_slot 2).ep) (EM.ex (em_callS (calm := true) (j := 0) (.inl rfl) (as_here (i := 0) (exs_cons (EN.exv (en_cb p_len (eps_cons (lp_slot 2).ep eps_nil))) exs_nil))))))))) (fun i e => by cases e; decide) (spM.at h) (spM.imp ni_law_door h)
theorem ok_law_door (m_range : mg "range" = none) (m_len : mg "len" = none) (c_law_take : DefC P w K.K mg base CX0 "_law_take" 1 ["bag", "many"] (spM K (some 0) F_law_take)) (hf : ∃ f fd, FunD K.K "_law_door" "_law_door" (defArgs s_law_door) (defBody s_law_door) (defScope s_law_door) [] [] f fd ∧ mg "_law_door" = some (.ref f)) : DefC P w K.K mg base CX0 "_law_door" 2 ["bag", "book"] (spM K (some 0) F_law_door) := by
  obtain ⟨f, fd, F, gf⟩ := hf
  exact ⟨f, fd, fn_law_door m_range m_len c_law_take F, gf, F.kp, (F.bindsN fun _ _ _ _ _ _ us hl => by rcases us with _ | ⟨a0, _ | ⟨a1, _ | ⟨a2, us⟩⟩⟩ <;> first | (simp at hl; done) | rfl)⟩

abbrev s_law_inside : Stmt := topS 25
abbrev Nlaw_inside : List Str := ["book", "door", "mark", "inner", "close", "one"]
abbrev sc_law_inside : Scope := defScope s_law_inside
theorem fs_law_inside : FnScope Nlaw_inside ["book", "door"] sc_law_inside := ⟨rfl, rfl, rfl, by decide +kernel, rfl, by decide +kernel, by decide +kernel⟩
theorem fn_law_inside  {f : Addr} {fd : FuncData} (F : FunD K.K "_law_inside" "_law_inside" (defArgs s_law_inside) (defBody s_law_inside) (defScope s_law_inside) [] [] f fd) : FnOk P w K.K mg base CX0 1 f fd ["book", "door"] (spM K none F_law_inside) := by
  have sc := fs_law_inside
  refine F.ok sc (fun vs H Q E h => spM.at h) ?_
  intro cdv A outer s H vs Q E hr h
  refine ⟨_, PSs.nox (pss_cons (ps_asg (pv 1) (show PG _ _ (gTup K.K 3 _) from pg_tup rfl (pgs_cons (pg_name (i := 2) sc.nd rfl (.inl rfl)) (pgs_cons (pg_name (i := 3) sc.nd rfl (.inl rfl)) (pgs_cons (pg_name (i := 4) sc.nd rfl (.inl rfl)) pgs_nil)))))
     (pss_one (ps_ret (pe_lst (pa_cons (pe_ix (r := rIx K.K) ix_seq (pe_ix (r := rIx K.K) ix_seq (pv 0) (pv 3) (fun _ _ => rfl)) pe_int (fun _ _ => rfl)) (pa_cons (pe_op (r := rAddA K.K) op_addA (pe_lc (own := [("one", 5)]) rfl sc.nd (show PI _ _ _ (iAny K.K _) from pi_any (pe_ix (r := rIx K.K) ix_seq (pe_ix (r := rIx K.K) ix_seq (pv 0) (pv 3) (fun _ _ => rfl)) pe_int (fun _ _ => rfl))) (blkOk_by (N := Nlaw_inside) (sc := sc_law_inside) (by decide +kernel)) (fun _ _ _ _ _ => (pg_name (i := 5) sc.nd rfl (by first | exact .inl rfl | exact .inr rfl))) (fun _ _ _ _ _ => pts_nil) (fun _ _ _ _ _ => (pe_ix (r := rIx K.K) ix_seq (pv 5) pe_int (fun _ _ => rfl)))) (pe_lst (pa_cons (pv 4) pa_nil))) pa_nil)))))), ?_⟩
  exact run_def (np := 2) (N := Nlaw_inside) (g := g_law_inside) (rn_seq (rn_asgT (EP.ex (lp_slot 1).ep) (jt_tup (n := 3) (jts_cons (jt_name (i := 2) rfl) (jts_cons (jt_name (i := 3) rfl) (jts_cons (jt_name (i := 4) rfl) jts_nil)))))
     (rn_ret (em_lst (exs_cons (EN.exv (en_op p_idx (EN.ep (en_op p_idx (lp_slot 0).ep (lp_slot 3).ep)) (EN.ep (en_int 0)))) (exs_cons (EN.exv (en_op p_add (EN.ep (en_comp (jip_any (EN.ep (en_op p_idx (EN.ep (en_op p_idx (lp_slot 0).ep (lp_slot 3).ep)) (EN.ep (en_int 1))))) (jt_name (i := 5) (by decide)) ept_yes (EN.ep (en_op p_idx (lp_slot 5).ep (EN.ep (en_int 0)))))) (EN.ep (en_lst (pd_cons (lp_slot 4).ep pd_nil))))) exs_nil))))) (fun i e => by cases e) (spM.at h) (spM.imp ni_law_inside h)
theorem ok_law_inside  (hf : ∃ f fd, FunD K.K "_law_inside" "_law_inside" (defArgs s_law_inside) (defBody s_law_inside) (defScope s_law_inside) [] [] f fd ∧ mg "_law_inside" = some (.ref f)) : DefC P w K.K mg base CX0 "_law_inside" 1 ["book", "door"] (spM K none F_law_inside) := by
  obtain ⟨f, fd, F, gf⟩ := hf
  exact ⟨f, fd, fn_law_inside  F, gf, F.kp, (F.bindsN fun _ _ _ _ _ _ us hl => by rcases us with _ | ⟨a0, _ | ⟨a1, _ | ⟨a2, us⟩⟩⟩ <;> first | (simp at hl; done) | rfl)⟩

abbrev s_law_marks : Stmt := topS 22
abbrev Nlaw_marks : List Str := ["book", "found", "escape", "doors", "door"]
abbrev sc_law_marks : Scope := defScope s_law_marks
theorem fs_law_marks : FnScope Nlaw_marks ["book"] sc_law_marks := ⟨rfl, rfl, rfl, by decide +kernel, rfl, by decide +kernel, by decide +kernel⟩
theorem fn_law_marks  {f : Addr} {fd : FuncData} (F : FunD K.K "_law_marks" "_law_marks" (defArgs s_law_marks) (defBody s_law_marks) (defScope s_law_marks) [] [] f fd) : FnOk P w K.K mg base CX0 1 f fd ["book"] (spM K none F_law_marks) := by
  have sc := fs_law_marks
  refine F.ok sc (fun vs H Q E h => spM.at h) ?_
  intro cdv A outer s H vs Q E hr h
  refine ⟨_, PSs.nox (pss_cons (ps_set (i := 1) sc.nd rfl (.inl rfl) (pe_lst pa_nil))
     (pss_cons (ps_for PassesOwn.never rfl (show PI _ _ _ (iAny K.K _) from pi_any (pv 0)) (show PG _ _ (gTup K.K 2 _) from pg_tup rfl (pgs_cons (pg_name (i := 2) sc.nd rfl (.inl rfl)) (pgs_cons (pg_name (i := 3) sc.nd rfl (.inl rfl)) pgs_nil)))
     (pss_cons (ps_for PassesOwn.never rfl (show PI _ _ _ (iAny K.K _) from pi_any (pv 3)) (pg_name (i := 4) sc.nd rfl (.inl rfl))
     (pss_one (ps_set (i := 1) sc.nd rfl (.inl rfl) (pe_op (r := rAddA K.K) op_addA (pv 1) (pe_lst (pa_cons (pe_ix (r := rIx K.K) ix_seq (pv 4) pe_int (fun _ _ => rfl)) (pa_cons (pe_ix (r := rIx K.K) ix_seq (pv 4) pe_int (fun _ _ => rfl)) pa_nil)))))))
     (pss_one (ps_if (pt_cmpR (r := rNeA K.K) (op_neA (hu64 hr)) (pv 2) pe_str (nomark _))
     (pss_one (ps_expr (show PE _ _ (tBM K.K "list" _ _ _) from pe_bm PySem.F.plainAttrs_list PySem.F.slot_list_append PySem.F.type_list_append mt_append (pv 1) (pa_cons (pv 2) pa_nil))))
     pss_nil))))
     (pss_one (ps_ret (pv 1))))), ?_⟩
  exact run_def (np := 1) (N := Nlaw_marks) (g := g_law_marks) (rn_seq (rn_asgM (i := 1) rfl (EN.em (en_lst pd_nil)))
     (rn_seq (rn_for (ji_any (EP.ex (lp_slot 0).ep)) (jt_tup (n := 2) (jts_cons (jt_name (i := 2) rfl) (jts_cons (jt_name (i := 3) rfl) jts_nil)))
     (rn_seq (rn_for (ji_any (EP.ex (lp_slot 3).ep)) (jt_name (i := 4) rfl)
     (rn_asgM (i := 1) rfl (EN.em (en_op p_add (lp_slot 1).ep (EN.ep (en_lst (pd_cons (EN.ep (en_op p_idx (lp_slot 4).ep (EN.ep (en_int 0)))) (pd_cons (EN.ep (en_op p_idx (lp_slot 4).ep (EN.ep (en_int 2)))) pd_nil))))))))
     (rn_if (EPT.et (ept_test (EN.ep (en_op p_ne (lp_slot 2).ep (EN.ep (en_str ""))))))
     (rn_app (lp_slot 1) (lp_slot 2).ep)
     rn_skip)))
     (rn_ret (em_take 1)))) (fun i e => by cases e) (spM.at h) (spM.imp ni_law_marks h)
theorem ok_law_marks  (hf : ∃ f fd, FunD K.K "_law_marks" "_law_marks" (defArgs s_law_marks) (defBody s_law_marks) (defScope s_law_marks) [] [] f fd ∧ mg "_law_marks" = some (.ref f)) : DefC P w K.K mg base CX0 "_law_marks" 1 ["book"] (spM K none F_law_marks) := by
  obtain ⟨f, fd, F, gf⟩ := hf
  exact ⟨f, fd, fn_law_marks  F, gf, F.kp, (F.bindsN fun _ _ _ _ _ _ us hl => by rcases us with _ | ⟨a0, _ | ⟨a1, us⟩⟩ <;> first | (simp at hl; done) | rfl)⟩

abbrev s_law_text : Stmt := topS 23
abbrev Nlaw_text : List Str := ["bag", "book", "most", "some", "found", "turn", "one"]
abbrev sc_law_text : Scope := defScope s_law_text
theorem fs_law_text : FnScope Nlaw_text ["bag", "book", "most"] sc_law_text := ⟨rfl, rfl, rfl, by decide +kernel, rfl, by decide +kernel, by decide +kernel⟩
theorem fn_law_text (c_law_marks : DefC P w K.K mg base CX0 "_law_marks" 1 ["book"] (spM K none F_law_marks)) (m_range : mg "range" = none) (c_law_take : DefC P w K.K mg base CX0 "_law_take" 1 ["bag", "many"] (spM K (some 0) F_law_take)) (m_len : mg "len" = none) {f : Addr} {fd : FuncData} (F : FunD K.K "_law_text" "_law_text" (defArgs s_law_text) (defBody s_law_text) (defScope s_law_text) [] [] f fd) : FnOk P w K.K mg base CX0 2 f fd ["bag", "book", "most"] (spM K (some 0) F_law_text) := by
  have sc := fs_law_text
  refine F.ok sc (fun vs H Q E h => spM.at h) ?_
  intro cdv A outer s H vs Q E hr h
  refine ⟨_, PSs.nox (pss_cons (ps_set (i := 3) sc.nd rfl (.inl rfl) (pe_op (r := rAddA K.K) op_addA (pe_c c_law_marks hr (by decide) rfl pass0 (pa_cons (pv 1) pa_nil)) (pe_lst (pa_cons pe_str (pa_cons pe_str (pa_cons pe_str (pa_cons pe_str (pa_cons pe_str pa_nil))))))))
     (pss_cons (ps_set (i := 4) sc.nd rfl (.inl rfl) pe_str)
     (pss_cons (ps_for PassesOwn.never rfl (pi_range1 rfl m_range (pa_cons (pe_c c_law_take hr (by decide) rfl pass0 (pa_cons (pv 0) (pa_cons (pv 2) pa_nil))) pa_nil)) (pg_name (i := 5) sc.nd rfl (.inl rfl))
     (pss_cons (ps_set (i := 6) sc.nd rfl (.inl rfl) (pe_ix (r := rIx K.K) ix_seq (pv 3) (pe_c c_law_take hr (by decide) rfl pass0 (pa_cons (pv 0) (pa_cons (pe_callB (r := rLenA K.K) call_len rfl m_len (by decide +kernel) (pa_cons (pv 3) pa_nil)) pa_nil))) (fun _ _ => rfl)))
     (pss_cons (ps_if (pt_cmpR (r := rEqA K.K) (op_eqA (hu64 hr)) (pe_c c_law_take hr (by decide) rfl pass0 (pa_cons (pv 0) (pa_cons pe_int pa_nil))) pe_int (nomark _))
     (pss_one (ps_set (i := 6) sc.nd rfl (.inl rfl) (pe_slice (r := rSlX K.K) sl_any (pv 6) po_none (po_some (pe_op (r := rAddA K.K) op_addA pe_int (pe_c c_law_take hr (by decide) rfl pass0 (pa_cons (pv 0) (pa_cons (pe_callB (r := rLenA K.K) call_len rfl m_len (by decide +kernel) (pa_cons (pv 6) pa_nil)) pa_nil))))))))
     pss_nil)
     (pss_one (ps_set (i := 4) sc.nd rfl (.inl rfl) (pe_op (r := rAddA K.K) op_addA (pv 4) (pv 6)))))))
     (pss_one (ps_ret (pv 4)))))), ?_⟩
  exact run_def (np := 3) (N := Nlaw_text) (g := g_law_text) (rn_seq (rn_asg (i := 3) rfl (EM.ex (em_op p_add (EM.ex (em_call (calm := true) (.inl rfl) (exs_cons (EP.ex (lp_slot 1).ep) exs_nil))) (EN.exv (en_lst (pd_cons (EN.ep (en_str "x")) (pd_cons (EN.ep (en_str " ")) (pd_cons (EN.ep (en_str "a")) (pd_cons (EN.ep (en_str "b")) (pd_cons (EN.ep (en_str "\n")) pd_nil))))))))))
     (rn_seq (rn_asg (i := 4) rfl (EN.exv (en_str "")))
     (rn_seq (rn_for (ji_rng1 (exs_cons (EM.ex (em_callS (calm := true) (j := 0) (.inl rfl) (as_here (i := 0) (exs_cons (EP.ex (lp_slot 2).ep) exs_nil)))) exs_nil)) (jt_name (i := 5) rfl)
     (rn_seq (rn_asg (i := 6) rfl (EM.ex (em_op p_idx (EP.ex (lp_slot 3).ep) (EM.ex (em_callS (calm := true) (j := 0) (.inl rfl) (as_here (i := 0) (exs_cons (EN.exv (en_cb p_len (eps_cons (lp_slot 3).ep eps_nil))) exs_nil)))))))
     (rn_seq (rn_if (et_test (EM.ex (em_op p_eq (EM.ex (em_callS (calm := true) (j := 0) (.inl rfl) (as_here (i := 0) (exs_cons (EN.exv (en_int 6)) exs_nil)))) (EN.exv (en_int 0)))))
     (rn_asg (i := 6) rfl (EM.ex (em_slX p_sl (EP.ex (lp_slot 6).ep) xo_no (xo_at (EM.ex (em_op p_add (EN.exv (en_int 1)) (EM.ex (em_callS (calm := true) (j := 0) (.inl rfl) (as_here (i := 0) (exs_cons (EN.exv (en_cb p_len (eps_cons (lp_slot 6).ep eps_nil))) exs_nil))))))))))
     rn_skip)
     (rn_asg (i := 4) rfl (EN.exv (en_op p_add (lp_slot 4).ep (lp_slot 6).ep))))))
     (rn_ret (EX.em (EP.ex (lp_slot 4).ep)))))) (fun i e => by cases e; decide) (spM.at h) (spM.imp ni_law_text h)
theorem ok_law_text (c_law_marks : DefC P w K.K mg base CX0 "_law_marks" 1 ["book"] (spM K none F_law_marks)) (m_range : mg "range" = none) (c_law_take : DefC P w K.K mg base CX0 "_law_take" 1 ["bag", "many"] (spM K (some 0) F_law_take)) (m_len : mg "len" = none) (hf : ∃ f fd, FunD K.K "_law_text" "_law_text" (defArgs s_law_text) (defBody s_law_text) (defScope s_law_text) [] [] f fd ∧ mg "_law_text" = some (.ref f)) : DefC P w K.K mg base CX0 "_law_text" 2 ["bag", "book", "most"] (spM K (some 0) F_law_text) := by
  obtain ⟨f, fd, F, gf⟩ := hf
  exact ⟨f, fd, fn_law_text c_law_marks m_range c_law_take m_len F, gf, F.kp, (F.bindsN fun _ _ _ _ _ _ us hl => by rcases us with _ | ⟨a0, _ | ⟨a1, _ | ⟨a2, _ | ⟨a3, us⟩⟩⟩⟩ <;> first | (simp at hl; done) | rfl)⟩

abbrev s_law_own_text : Stmt := topS 30
abbrev Nlaw_own_text : List Str := ["bag", "book", "door", "escape", "marks", "found", "turn", "mark"]
abbrev sc_law_own_text : Scope := defScope s_law_own_text
theorem fs_law_own_text : FnScope Nlaw_own_text ["bag", "book", "door"] sc_law_own_text := ⟨rfl, rfl, rfl, by decide +kernel, rfl, by decide +kernel, by decide +kernel⟩
theorem fn_law_own_text (c_law_inside : DefC P w K.K mg base CX0 "_law_inside" 1 ["book", "door"] (spM K none F_law_inside)) (c_law_text : DefC P w K.K mg base CX0 "_law_text" 2 ["bag", "book", "most"] (spM K (some 0) F_law_text)) (m_range : mg "range" = none) (c_law_take : DefC P w K.K mg base CX0 "_law_take" 1 ["bag", "many"] (spM K (some 0) F_law_take)) (m_len : mg "len" = none) {f : Addr} {fd : FuncData} (F : FunD K.K "_law_own_text" "_law_own_text" (defArgs s_law_own_text) (defBody s_law_own_text) (defScope s_law_own_text) [] [] f fd) : FnOk P w K.K mg base CX0 3 f fd ["bag", "book", "door"] (spM K (some 0) F_law_own_text) := by
  have sc := fs_law_own_text
  refine F.ok sc (fun vs H Q E h => spM.at h) ?_
  intro cdv A outer s H vs Q E hr h
  refine ⟨_, PSs.nox (pss_cons (ps_asg (pe_c c_law_inside hr (by decide) rfl pass0 (pa_cons (pv 1) (pa_cons (pv 2) pa_nil))) (show PG _ _ (gUnl K.K 2 _) from pg_unl rfl (pgs_cons (pg_name (i := 3) sc.nd rfl (.inl rfl)) (pgs_cons (pg_name (i := 4) sc.nd rfl (.inl rfl)) pgs_nil))))
     (pss_cons (ps_set (i := 5) sc.nd rfl (.inl rfl) (pe_c c_law_text hr (by decide) rfl pass0 (pa_cons (pv 0) (pa_cons (pv 1) (pa_cons pe_int pa_nil)))))
     (pss_cons (ps_for PassesOwn.never rfl (pi_range1 rfl m_range (pa_cons (pe_c c_law_take hr (by decide) rfl pass0 (pa_cons (pv 0) (pa_cons pe_int pa_nil))) pa_nil)) (pg_name (i := 6) sc.nd rfl (.inl rfl))
     (pss_one (ps_set (i := 5) sc.nd rfl (.inl rfl) (pe_op (r := rAddA K.K) op_addA (pv 5) (pe_ix (r := rIx K.K) ix_seq (pe_op (r := rAddA K.K) op_addA (pv 4) (pe_lst (pa_cons pe_str (pa_cons pe_str (pa_cons (pv 3) pa_nil))))) (pe_c c_law_take hr (by decide) rfl pass0 (pa_cons (pv 0) (pa_cons (pe_op (r := rAddA K.K) op_addA (pe_callB (r := rLenA K.K) call_len rfl m_len (by decide +kernel) (pa_cons (pv 4) pa_nil)) pe_int) pa_nil))) (fun _ _ => rfl))))))
     (pss_cons (ps_set (i := 7) sc.nd rfl (.inl rfl) (pe_ix (r := rIx K.K) ix_seq (pv 4) (pe_c c_law_take hr (by decide) rfl pass0 (pa_cons (pv 0) (pa_cons (pe_callB (r := rLenA K.K) call_len rfl m_len (by decide +kernel) (pa_cons (pv 4) pa_nil)) pa_nil))) (fun _ _ => rfl)))
     (pss_one (ps_ret (pe_op (r := rAddA K.K) op_addA (pv 5) (pe_slice (r := rSlX K.K) sl_any (pv 7) po_none (po_some (pe_c c_law_take hr (by decide) rfl pass0 (pa_cons (pv 0) (pa_cons (pe_op (r := rAddA K.K) op_addA (pe_callB (r := rLenA K.K) call_len rfl m_len (by decide +kernel) (pa_cons (pv 7) pa_nil)) pe_int) pa_nil)))))))))))), ?_⟩
  exact run_def (np := 3) (N := Nlaw_own_text) (g := g_law_own_text) (rn_seq (rn_asgT (EM.ex (em_call (calm := true) (.inl rfl) (exs_cons (EP.ex (lp_slot 1).ep) (exs_cons (EP.ex (lp_slot 2).ep) exs_nil)))) (jt_unl (n := 2) (jts_cons (jt_name (i := 3) rfl) (jts_cons (jt_name (i := 4) rfl) jts_nil))))
     (rn_seq (rn_asg (i := 5) rfl (EM.ex (em_callS (calm := true) (j := 0) (.inl rfl) (as_here (i := 0) (exs_cons (EP.ex (lp_slot 1).ep) (exs_cons (EN.exv (en_int 10)) exs_nil))))))
     (rn_seq (rn_for (ji_rng1 (exs_cons (EM.ex (em_callS (calm := true) (j := 0) (.inl rfl) (as_here (i := 0) (exs_cons (EN.exv (en_int 8)) exs_nil)))) exs_nil)) (jt_name (i := 6) rfl)
     (rn_asg (i := 5) rfl (EM.ex (em_op p_add (EP.ex (lp_slot 5).ep) (EM.ex (em_op p_idx (EN.exv (en_op p_add (lp_slot 4).ep (EN.ep (en_lst (pd_cons (EN.ep (en_str "x")) (pd_cons (EN.ep (en_str " ")) (pd_cons (lp_slot 3).ep pd_nil))))))) (EM.ex (em_callS (calm := true) (j := 0) (.inl rfl) (as_here (i := 0) (exs_cons (EN.exv (en_op p_add (EN.ep (en_cb p_len (eps_cons (lp_slot 4).ep eps_nil))) (EN.ep (en_int 3)))) exs_nil))))))))))
     (rn_seq (rn_asg (i := 7) rfl (EM.ex (em_op p_idx (EP.ex (lp_slot 4).ep) (EM.ex (em_callS (calm := true) (j := 0) (.inl rfl) (as_here (i := 0) (exs_cons (EN.exv (en_cb p_len (eps_cons (lp_slot 4).ep eps_nil))) exs_nil)))))))
     (rn_ret (em_op p_add (EP.ex (lp_slot 5).ep) (EM.ex (em_slX p_sl (EP.ex (lp_slot 7).ep) xo_no (xo_at (EM.ex (em_callS (calm := true) (j := 0) (.inl rfl) (as_here (i := 0) (exs_cons (EN.exv (en_op p_add (EN.ep (en_cb p_len (eps_cons (lp_slot 7).ep eps_nil))) (EN.ep (en_int 1)))) exs_nil))))))))))))) (fun i e => by cases e; decide) (spM.at h) (spM.imp ni_law_own_text h)
theorem ok_law_own_text (c_law_inside : DefC P w K.K mg base CX0 "_law_inside" 1 ["book", "door"] (spM K none F_law_inside)) (c_law_text : DefC P w K.K mg base CX0 "_law_text" 2 ["bag", "book", "most"] (spM K (some 0) F_law_text)) (m_range : mg "range" = none) (c_law_take : DefC P w K.K mg base CX0 "_law_take" 1 ["bag", "many"] (spM K (some 0) F_law_take)) (m_len : mg "len" = none) (hf : ∃ f fd, FunD K.K "_law_own_text" "_law_own_text" (defArgs s_law_own_text) (defBody s_law_own_text) (defScope s_law_own_text) [] [] f fd ∧ mg "_law_own_text" = some (.ref f)) : DefC P w K.K mg base CX0 "_law_own_text" 3 ["bag", "book", "door"] (spM K (some 0) F_law_own_text) := by
  obtain ⟨f, fd, F, gf⟩ := hf
  exact ⟨f, fd, fn_law_own_text c_law_inside c_law_text m_range c_law_take m_len F, gf, F.kp, (F.bindsN fun _ _ _ _ _ _ us hl => by rcases us with _ | ⟨a0, _ | ⟨a1, _ | ⟨a2, _ | ⟨a3, us⟩⟩⟩⟩ <;> first | (simp at hl; done) | rfl)⟩

abbrev s_law_fewest : Stmt := topS 27
abbrev Nlaw_fewest : List Str := ["book", "door", "text", "escape", "marks", "whole", "best", "place", "further", "far", "free", "mark", "rest", "least", "step"]
abbrev sc_law_fewest : Scope := defScope s_law_fewest
theorem fs_law_fewest : FnScope Nlaw_fewest ["book", "door", "text"] sc_law_fewest := ⟨rfl, rfl, rfl, by decide +kernel, rfl, by decide +kernel, by decide +kernel⟩
theorem fn_law_fewest (c_law_inside : DefC P w K.K mg base CX0 "_law_inside" 1 ["book", "door"] (spM K none F_law_inside)) (m_list : mg "list" = none) (m_range : mg "range" = none) (m_len : mg "len" = none) (m_min : mg "min" = none) {f : Addr} {fd : FuncData} (F : FunD K.K "_law_fewest" "_law_fewest" (defArgs s_law_fewest) (defBody s_law_fewest) (defScope s_law_fewest) [] [] f fd) : FnOk P w K.K mg base CX0 2 f fd ["book", "door", "text"] (spM K none F_law_fewest) := by
  have sc := fs_law_fewest
  refine F.ok sc (fun vs H Q E h => spM.at h) ?_
  intro cdv A outer s H vs Q E hr h
  refine ⟨_, PSs.nox (pss_cons (ps_asg (pe_c c_law_inside hr (by decide) rfl pass0 (pa_cons (pv 0) (pa_cons (pv 1) pa_nil))) (show PG _ _ (gUnl K.K 2 _) from pg_unl rfl (pgs_cons (pg_name (i := 3) sc.nd rfl (.inl rfl)) (pgs_cons (pg_name (i := 4) sc.nd rfl (.inl rfl)) pgs_nil))))
     (pss_cons (ps_set (i := 5) sc.nd rfl (.inl rfl) (pe_op (r := rAddA K.K) op_addA (pv 2) (pe_ix (r := rIx K.K) ix_seq (pv 1) pe_int (fun _ _ => rfl))))
     (pss_cons (ps_set (i := 6) sc.nd rfl (.inr rfl) (pe_disp (pps_cons pe_int pe_int pps_nil) rfl rfl (by decide) (by decide)))
     (pss_cons (ps_for PassesOwn.never rfl (show PI _ _ _ (iAny K.K _) from pi_any (show PE _ _ (tRevL K.K _) from pe_revL (pe_listRg rfl rfl m_list (prg_1 rfl m_range (pe_callB (r := rLenA K.K) call_len rfl m_len (by decide +kernel) (pa_cons (pv 2) pa_nil)))))) (pg_name (i := 7) sc.nd rfl (.inl rfl))
     (pss_cons (ps_set (i := 8) sc.nd rfl (.inl rfl) pe_dnewK)
     (pss_cons (ps_dks (ps_for PassesOwn.never rfl (pi_keys (pv 6)) (pg_name (i := 9) sc.nd rfl (.inl rfl))
     (pss_cons (ps_set (i := 10) sc.nd rfl (.inl rfl) (pe_cmpR (r := rNeA K.K) (op_neA (hu64 hr)) (pe_ix (r := rIx K.K) ix_seq (pv 2) (pv 7) (fun _ _ => rfl)) (pv 3) (nomark _)))
     (pss_cons (ps_for PassesOwn.never rfl (show PI _ _ _ (iAny K.K _) from pi_any (pv 4)) (pg_name (i := 11) sc.nd rfl (.inl rfl))
     (pss_cons (ps_set (i := 12) sc.nd rfl (.inl rfl) (pe_slice (r := rSlX K.K) sl_any (pv 5) (po_some (pv 7)) (po_some (pe_op (r := rAddA K.K) op_addA (pv 7) (pe_callB (r := rLenA K.K) call_len rfl m_len (by decide +kernel) (pa_cons (pv 11) pa_nil))))))
     (pss_cons (ps_set (i := 13) sc.nd rfl (.inl rfl) (pe_callB (call_min2 rfl) rfl m_min (by decide +kernel) (pa_cons (pe_op op_sub (pe_callB (r := rLenA K.K) call_len rfl m_len (by decide +kernel) (pa_cons (pv 11) pa_nil)) pe_int) (pa_cons (pe_op op_sub (pe_op op_sub (pe_callB (r := rLenA K.K) call_len rfl m_len (by decide +kernel) (pa_cons (pv 2) pa_nil)) pe_int) (pv 7)) pa_nil))))
     (pss_one (ps_if (PW.pt (pw_and (pt_cmpR (r := rEqA K.K) (op_eqA (hu64 hr)) (pe_slice (r := rSlX K.K) sl_any (pv 11) po_none (po_some (pe_callB (r := rLenA K.K) call_len rfl m_len (by decide +kernel) (pa_cons (pv 12) pa_nil)))) (pv 12) (nomark _)) (pw_and1 (pt_cmpR op_geA (pv 9) (pv 13) (nomark _)))))
     (pss_one (ps_set (i := 10) sc.nd rfl (.inl rfl) pe_bl))
     pss_nil)))))
     (pss_cons (ps_if (pt_cmpR (r := rNeA K.K) (op_neA (hu64 hr)) (pv 3) pe_str (nomark _))
     (pss_one (ps_dput (hu1 hr) (pv 8) pe_int (pe_callB (call_min2 rfl) rfl m_min (by decide +kernel) (pa_cons (pe_dget2 (hu1 hr) (pv 8) pe_int (pe_op (r := rAddA K.K) op_addA (pe_dget (hu1 hr) (pv 6) (pv 9) (fun _ _ => rfl)) pe_int) ⟨rfl, rfl, rfl, rfl⟩) (pa_cons (pe_op (r := rAddA K.K) op_addA (pe_dget (hu1 hr) (pv 6) (pv 9) (fun _ _ => rfl)) pe_int) pa_nil))) rfl))
     pss_nil)
     (pss_one (ps_if (pt_val (pv 10))
     (pss_cons (ps_set (i := 14) sc.nd rfl (.inl rfl) (pe_callB (call_min2 rfl) rfl m_min (by decide +kernel) (pa_cons pe_int (pa_cons (pe_op (r := rAddA K.K) op_addA (pv 9) pe_int) pa_nil))))
     (pss_one (ps_dput (hu1 hr) (pv 8) (pv 14) (pe_callB (call_min2 rfl) rfl m_min (by decide +kernel) (pa_cons (pe_dget2 (hu1 hr) (pv 8) (pv 14) (pe_dget (hu1 hr) (pv 6) (pv 9) (fun _ _ => rfl)) ⟨rfl, rfl, rfl, rfl⟩) (pa_cons (pe_dget (hu1 hr) (pv 6) (pv 9) (fun _ _ => rfl)) pa_nil))) rfl)))
     pss_nil)))))))
     (pss_one (ps_set (i := 6) sc.nd rfl (.inr rfl) (pv 8))))))
     (pss_cons (ps_if (pt_cmpR (r := rEqD0) (op_eqD0 (Nat.lt_of_succ_lt (hu1 hr))) (pv 6) pe_dnewK (nomark _))
     (pss_one (ps_ret pe_non))
     pss_nil)
     (pss_one (ps_ret (pe_callB (r := rMin K.K) (cr_min rfl) rfl m_min (by decide +kernel) (pa_cons (show PE _ _ (tDK (tLc _ _ _ _ _)) from pe_dk (pe_lc (own := [("far", 9)]) rfl sc.nd (pi_keys (pv 6)) (blkOk_by (N := Nlaw_fewest) (sc := sc_law_fewest) (by decide +kernel)) (fun _ _ _ _ _ => (pg_name (i := 9) sc.nd rfl (by first | exact .inl rfl | exact .inr rfl))) (fun _ _ _ _ _ => pts_nil) (fun _ _ _ _ _ => (pe_dget (hu1 hr) (pv 6) (pv 9) (fun _ _ => rfl))))) pa_nil))))))))), ?_⟩
  exact run_def (np := 3) (N := Nlaw_fewest) (g := g_law_fewest) (rn_seq (rn_asgT (EM.ex (em_call (calm := true) (.inl rfl) (exs_cons (EP.ex (lp_slot 0).ep) (exs_cons (EP.ex (lp_slot 1).ep) exs_nil)))) (jt_unl (n := 2) (jts_cons (jt_name (i := 3) rfl) (jts_cons (jt_name (i := 4) rfl) jts_nil))))
     (rn_seq (rn_asg (i := 5) rfl (EN.exv (en_op p_add (lp_slot 2).ep (EN.ep (en_op p_idx (lp_slot 1).ep (EN.ep (en_int 2)))))))
     (rn_seq (rn_asg (i := 6) rfl (EN.exv (en_disp1 (EN.ep (en_int 3)) (EN.ep (en_int 0)))))
     (rn_seq (rn_for (ji_any (EN.exv (en_rev (EN.ep (en_lrg1 (EN.ep (en_cb p_len (eps_cons (lp_slot 2).ep eps_nil)))))))) (jt_name (i := 7) rfl)
     (rn_seq (rn_asgM (i := 8) rfl (EN.em en_dnew))
     (rn_seq (rn_forDK (i := 6) (jt_name (i := 9) rfl)
     (rn_seq (rn_asg (i := 10) rfl (EN.exv (en_op p_ne (EN.ep (en_op p_idx (lp_slot 2).ep (lp_slot 7).ep)) (lp_slot 3).ep)))
     (rn_seq (rn_for (ji_any (EP.ex (lp_slot 4).ep)) (jt_name (i := 11) rfl)
     (rn_seq (rn_asg (i := 12) rfl (EN.exv (en_sl p_sl (lp_slot 5).ep (eo_at (lp_slot 7).ep) (eo_at (EN.ep (en_op p_add (lp_slot 7).ep (EN.ep (en_cb p_len (eps_cons (lp_slot 11).ep eps_nil)))))))))
     (rn_seq (rn_asg (i := 13) rfl (EN.exv (en_cb p_min2 (eps_cons (EN.ep (en_op p_sub (EN.ep (en_cb p_len (eps_cons (lp_slot 11).ep eps_nil))) (EN.ep (en_int 1)))) (eps_cons (EN.ep (en_op p_sub (EN.ep (en_op p_sub (EN.ep (en_cb p_len (eps_cons (lp_slot 2).ep eps_nil))) (EN.ep (en_int 1)))) (lp_slot 7).ep)) eps_nil)))))
     (rn_if (EPT.et (ept_and (ept_test (EN.ep (en_op p_eq (EN.ep (en_sl p_sl (lp_slot 11).ep eo_no (eo_at (EN.ep (en_cb p_len (eps_cons (lp_slot 12).ep eps_nil)))))) (lp_slot 12).ep))) (ept_test (EN.ep (en_op p_ge (lp_slot 9).ep (lp_slot 13).ep)))))
     (rn_asg (i := 10) rfl (EN.exv (en_bl false)))
     rn_skip))))
     (rn_seq (rn_if (EPT.et (ept_test (EN.ep (en_op p_ne (lp_slot 3).ep (EN.ep (en_str ""))))))
     (rn_dput (EN.exv (en_cb p_min2 (eps_cons (EN.ep (en_dget2 (lp_slot 8).ep (EN.ep (en_int 0)) (EN.ep (en_op p_add (EN.ep (en_dget (lp_slot 6).ep (lp_slot 9).ep)) (EN.ep (en_int 1)))))) (eps_cons (EN.ep (en_op p_add (EN.ep (en_dget (lp_slot 6).ep (lp_slot 9).ep)) (EN.ep (en_int 1)))) eps_nil)))) (lp_slot 8) (EN.ep (en_int 0)))
     rn_skip)
     (rn_if (EPT.et (ept_B (lp_slot 10).ep))
     (rn_seq (rn_asg (i := 14) rfl (EN.exv (en_cb p_min2 (eps_cons (EN.ep (en_int 3)) (eps_cons (EN.ep (en_op p_add (lp_slot 9).ep (EN.ep (en_int 1)))) eps_nil)))))
     (rn_dput (EN.exv (en_cb p_min2 (eps_cons (EN.ep (en_dget2 (lp_slot 8).ep (lp_slot 14).ep (EN.ep (en_dget (lp_slot 6).ep (lp_slot 9).ep)))) (eps_cons (EN.ep (en_dget (lp_slot 6).ep (lp_slot 9).ep)) eps_nil)))) (lp_slot 8) (lp_slot 14).ep))
     rn_skip)))))
     (rn_asg (i := 6) rfl (ex_frz 8)))))
     (rn_seq (rn_if (EPT.et (ept_test (EN.ep (en_op p_eqE (lp_slot 6).ep (EN.ep en_dnew)))))
     (rn_ret (EN.em en_non))
     rn_skip)
     (rn_ret (EN.em (en_cb p_minL (eps_cons (EN.ep (en_compDK (ld_slot 6) (jt_name (i := 9) (by decide)) ept_yes (EN.ep (en_dget (lp_slot 6).ep (lp_slot 9).ep)))) eps_nil))))))))) (fun i e => by cases e) (spM.at h) (spM.imp ni_law_fewest h)
theorem ok_law_fewest (c_law_inside : DefC P w K.K mg base CX0 "_law_inside" 1 ["book", "door"] (spM K none F_law_inside)) (m_list : mg "list" = none) (m_range : mg "range" = none) (m_len : mg "len" = none) (m_min : mg "min" = none) (hf : ∃ f fd, FunD K.K "_law_fewest" "_law_fewest" (defArgs s_law_fewest) (defBody s_law_fewest) (defScope s_law_fewest) [] [] f fd ∧ mg "_law_fewest" = some (.ref f)) : DefC P w K.K mg base CX0 "_law_fewest" 2 ["book", "door", "text"] (spM K none F_law_fewest) := by
  obtain ⟨f, fd, F, gf⟩ := hf
  exact ⟨f, fd, fn_law_fewest c_law_inside m_list m_range m_len m_min F, gf, F.kp, (F.bindsN fun _ _ _ _ _ _ us hl => by rcases us with _ | ⟨a0, _ | ⟨a1, _ | ⟨a2, _ | ⟨a3, us⟩⟩⟩⟩ <;> first | (simp at hl; done) | rfl)⟩

abbrev s_door_of : Stmt := topS 11
abbrev Ndoor_of : List Str := ["book", "tongue", "number"]
abbrev sc_door_of : Scope := defScope s_door_of
theorem fs_door_of : FnScope Ndoor_of ["book", "tongue", "number"] sc_door_of := ⟨rfl, rfl, rfl, by decide +kernel, rfl, by decide +kernel, by decide +kernel⟩
theorem fn_door_of (m_len : mg "len" = none) {f : Addr} {fd : FuncData} (F : FunD K.K "door_of" "door_of" (defArgs s_door_of) (defBody s_door_of) (defScope s_door_of) [] [] f fd) : FnOk P w K.K mg base CX0 1 f fd ["book", "tongue", "number"] (spM K none F_door_of) := by
  have sc := fs_door_of
  refine F.ok sc (fun vs H Q E h => spM.at h) ?_
  intro cdv A outer s H vs Q E hr h
  refine ⟨_, PSs.nox (pss_cons (ps_if (PW.pt (pw_or (pt_cmpR op_ltA (pv 1) pe_int (nomark _)) (pw_or (pt_cmpR op_geA (pv 1) (pe_callB (r := rLenA K.K) call_len rfl m_len (by decide +kernel) (pa_cons (pv 0) pa_nil)) (nomark _)) (pw_or (pt_cmpR op_ltA (pv 2) pe_int (nomark _)) (pw_or1 (pt_cmpR op_geA (pv 2) (pe_callB (r := rLenA K.K) call_len rfl m_len (by decide +kernel) (pa_cons (pe_ix (r := rIx K.K) ix_seq (pe_ix (r := rIx K.K) ix_seq (pv 0) (pv 1) (fun _ _ => rfl)) pe_int (fun _ _ => rfl)) pa_nil)) (nomark _)))))))
     (pss_one ps_never)
     pss_nil)
     (pss_one (ps_ret (pe_ix (r := rIx K.K) ix_seq (pe_ix (r := rIx K.K) ix_seq (pe_ix (r := rIx K.K) ix_seq (pv 0) (pv 1) (fun _ _ => rfl)) pe_int (fun _ _ => rfl)) (pv 2) (fun _ _ => rfl))))), ?_⟩
  exact run_def (np := 3) (N := Ndoor_of) (g := g_door_of) (rn_seq (rn_if (EPT.et (ept_or (ept_test (EN.ep (en_op p_lt (lp_slot 1).ep (EN.ep (en_int 0))))) (ept_or (ept_test (EN.ep (en_op p_ge (lp_slot 1).ep (EN.ep (en_cb p_len (eps_cons (lp_slot 0).ep eps_nil)))))) (ept_or (ept_test (EN.ep (en_op p_lt (lp_slot 2).ep (EN.ep (en_int 0))))) (ept_test (EN.ep (en_op p_ge (lp_slot 2).ep (EN.ep (en_cb p_len (eps_cons (EN.ep (en_op p_idx (EN.ep (en_op p_idx (lp_slot 0).ep (lp_slot 1).ep)) (EN.ep (en_int 1)))) eps_nil))))))))))
     rn_never
     rn_skip)
     (rn_ret (EN.em (en_op p_idx (EN.ep (en_op p_idx (EN.ep (en_op p_idx (lp_slot 0).ep (lp_slot 1).ep)) (EN.ep (en_int 1)))) (lp_slot 2).ep)))) (fun i e => by cases e) (spM.at h) (spM.imp ni_door_of h)
theorem ok_door_of (m_len : mg "len" = none) (hf : ∃ f fd, FunD K.K "door_of" "door_of" (defArgs s_door_of) (defBody s_door_of) (defScope s_door_of) [] [] f fd ∧ mg "door_of" = some (.ref f)) : DefC P w K.K mg base CX0 "door_of" 1 ["book", "tongue", "number"] (spM K none F_door_of) := by
  obtain ⟨f, fd, F, gf⟩ := hf
  exact ⟨f, fd, fn_door_of m_len F, gf, F.kp, (F.bindsN fun _ _ _ _ _ _ us hl => by rcases us with _ | ⟨a0, _ | ⟨a1, _ | ⟨a2, _ | ⟨a3, us⟩⟩⟩⟩ <;> first | (simp at hl; done) | rfl)⟩

abbrev s_stretches : Stmt := topS 12
abbrev Nstretches : List Str := ["book", "door", "text", "mark", "inner", "close", "whole", "found", "other", "place", "rest", "one"]
abbrev sc_stretches : Scope := defScope s_stretches
theorem fs_stretches : FnScope Nstretches ["book", "door", "text"] sc_stretches := ⟨rfl, rfl, rfl, by decide +kernel, rfl, by decide +kernel, by decide +kernel⟩
theorem fn_stretches (m_range : mg "range" = none) (m_len : mg "len" = none) (m_min : mg "min" = none) {f : Addr} {fd : FuncData} (F : FunD K.K "stretches" "stretches" (defArgs s_stretches) (defBody s_stretches) (defScope s_stretches) [] [] f fd) : FnOk P w K.K mg base CX0 1 f fd ["book", "door", "text"] (spM K none F_stretches) := by
  have sc := fs_stretches
  refine F.ok sc (fun vs H Q E h => spM.at h) ?_
  intro cdv A outer s H vs Q E hr h
  refine ⟨_, PSs.nox (pss_cons (ps_asg (pv 1) (show PG _ _ (gTup K.K 3 _) from pg_tup rfl (pgs_cons (pg_name (i := 3) sc.nd rfl (.inl rfl)) (pgs_cons (pg_name (i := 4) sc.nd rfl (.inl rfl)) (pgs_cons (pg_name (i := 5) sc.nd rfl (.inl rfl)) pgs_nil)))))
     (pss_cons (ps_set (i := 6) sc.nd rfl (.inl rfl) (pe_op (r := rAddA K.K) op_addA (pv 2) (pv 5)))
     (pss_cons (ps_set (i := 7) sc.nd rfl (.inl rfl) (pe_lst pa_nil))
     (pss_cons (ps_for PassesOwn.never rfl (show PI _ _ _ (iAny K.K _) from pi_any (pe_op (r := rAddA K.K) op_addA (pe_lc (own := [("one", 11)]) rfl sc.nd (show PI _ _ _ (iAny K.K _) from pi_any (pe_ix (r := rIx K.K) ix_seq (pe_ix (r := rIx K.K) ix_seq (pv 0) (pv 4) (fun _ _ => rfl)) pe_int (fun _ _ => rfl))) (blkOk_by (N := Nstretches) (sc := sc_stretches) (by decide +kernel)) (fun _ _ _ _ _ => (pg_name (i := 11) sc.nd rfl (by first | exact .inl rfl | exact .inr rfl))) (fun _ _ _ _ _ => pts_nil) (fun _ _ _ _ _ => (pe_ix (r := rIx K.K) ix_seq (pv 11) pe_int (fun _ _ => rfl)))) (pe_lst (pa_cons (pv 5) pa_nil)))) (pg_name (i := 8) sc.nd rfl (.inl rfl))
     (pss_one (ps_for PassesOwn.never rfl (pi_range1 rfl m_range (pa_cons (pe_callB (r := rLenA K.K) call_len rfl m_len (by decide +kernel) (pa_cons (pv 2) pa_nil)) pa_nil)) (pg_name (i := 9) sc.nd rfl (.inl rfl))
     (pss_cons (ps_set (i := 10) sc.nd rfl (.inl rfl) (pe_slice (r := rSlX K.K) sl_any (pv 6) (po_some (pv 9)) (po_some (pe_op (r := rAddA K.K) op_addA (pv 9) (pe_callB (r := rLenA K.K) call_len rfl m_len (by decide +kernel) (pa_cons (pv 8) pa_nil))))))
     (pss_one (ps_if (pt_val (pe_m1 PySem.F.slot_str_startswith PySem.F.type_str_startswith mt_startswith (pv 8) (pv 10)))
     (pss_one (ps_expr (show PE _ _ (tBM K.K "list" _ _ _) from pe_bm PySem.F.plainAttrs_list PySem.F.slot_list_append PySem.F.type_list_append mt_append (pv 7) (pa_cons (pe_tup (pa_cons (pv 9) (pa_cons (pe_op op_sub (pe_callB (call_min2 rfl) rfl m_min (by decide +kernel) (pa_cons (pe_op (r := rAddA K.K) op_addA (pv 9) (pe_callB (r := rLenA K.K) call_len rfl m_len (by decide +kernel) (pa_cons (pv 8) pa_nil))) (pa_cons (pe_callB (r := rLenA K.K) call_len rfl m_len (by decide +kernel) (pa_cons (pv 2) pa_nil)) pa_nil))) pe_int) pa_nil))) pa_nil))))
     pss_nil))))))
     (pss_one (ps_ret (pv 7))))))), ?_⟩
  exact run_def (np := 3) (N := Nstretches) (g := g_stretches) (rn_seq (rn_asgT (EP.ex (lp_slot 1).ep) (jt_tup (n := 3) (jts_cons (jt_name (i := 3) rfl) (jts_cons (jt_name (i := 4) rfl) (jts_cons (jt_name (i := 5) rfl) jts_nil)))))
     (rn_seq (rn_asg (i := 6) rfl (EN.exv (en_op p_add (lp_slot 2).ep (lp_slot 5).ep)))
     (rn_seq (rn_asgM (i := 7) rfl (EN.em (en_lst pd_nil)))
     (rn_seq (rn_for (ji_any (EN.exv (en_op p_add (EN.ep (en_comp (jip_any (EN.ep (en_op p_idx (EN.ep (en_op p_idx (lp_slot 0).ep (lp_slot 4).ep)) (EN.ep (en_int 1))))) (jt_name (i := 11) (by decide)) ept_yes (EN.ep (en_op p_idx (lp_slot 11).ep (EN.ep (en_int 0)))))) (EN.ep (en_lst (pd_cons (lp_slot 5).ep pd_nil)))))) (jt_name (i := 8) rfl)
     (rn_for (ji_rng1 (exs_cons (EN.exv (en_cb p_len (eps_cons (lp_slot 2).ep eps_nil))) exs_nil)) (jt_name (i := 9) rfl)
     (rn_seq (rn_asg (i := 10) rfl (EN.exv (en_sl p_sl (lp_slot 6).ep (eo_at (lp_slot 9).ep) (eo_at (EN.ep (en_op p_add (lp_slot 9).ep (EN.ep (en_cb p_len (eps_cons (lp_slot 8).ep eps_nil)))))))))
     (rn_if (EPT.et (ept_B (EN.ep (en_m1 sm_starts (lp_slot 8).ep (lp_slot 10).ep))))
     (rn_app (lp_slot 7) (EN.ep (en_tup (pd_cons (lp_slot 9).ep (pd_cons (EN.ep (en_op p_sub (EN.ep (en_cb p_min2 (eps_cons (EN.ep (en_op p_add (lp_slot 9).ep (EN.ep (en_cb p_len (eps_cons (lp_slot 8).ep eps_nil))))) (eps_cons (EN.ep (en_cb p_len (eps_cons (lp_slot 2).ep eps_nil))) eps_nil)))) (EN.ep (en_int 1)))) pd_nil)))))
     rn_skip))))
     (rn_ret (em_take 7)))))) (fun i e => by cases e) (spM.at h) (spM.imp ni_stretches h)
theorem ok_stretches (m_range : mg "range" = none) (m_len : mg "len" = none) (m_min : mg "min" = none) (hf : ∃ f fd, FunD K.K "stretches" "stretches" (defArgs s_stretches) (defBody s_stretches) (defScope s_stretches) [] [] f fd ∧ mg "stretches" = some (.ref f)) : DefC P w K.K mg base CX0 "stretches" 1 ["book", "door", "text"] (spM K none F_stretches) := by
  obtain ⟨f, fd, F, gf⟩ := hf
  exact ⟨f, fd, fn_stretches m_range m_len m_min F, gf, F.kp, (F.bindsN fun _ _ _ _ _ _ us hl => by rcases us with _ | ⟨a0, _ | ⟨a1, _ | ⟨a2, _ | ⟨a3, us⟩⟩⟩⟩ <;> first | (simp at hl; done) | rfl)⟩

abbrev s_escaped_places : Stmt := topS 13
abbrev Nescaped_places : List Str := ["book", "door", "text", "escape", "found", "last", "first", "end", "place", "sign"]
abbrev sc_escaped_places : Scope := defScope s_escaped_places
theorem fs_escaped_places : FnScope Nescaped_places ["book", "door", "text"] sc_escaped_places := ⟨rfl, rfl, rfl, by decide +kernel, rfl, by decide +kernel, by decide +kernel⟩
theorem fn_escaped_places (m_enumerate : mg "enumerate" = none) (m_sorted : mg "sorted" = none) (c_stretches : DefC P w K.K mg base CX0 "stretches" 1 ["book", "door", "text"] (spM K none F_stretches)) (xa : ExcA K mg) {f : Addr} {fd : FuncData} (F : FunD K.K "escaped_places" "escaped_places" (defArgs s_escaped_places) (defBody s_escaped_places) (defScope s_escaped_places) [] [] f fd) (th : TabH mg base "escaped_places.<locals>.<lambda>" fd) : FnOk P w K.K mg base (L2N.CX P w) 2 f fd ["book", "door", "text"] (spM K none F_escaped_places) := by
  have sc := fs_escaped_places
  obtain ⟨c0, P0, hc0, TB0, hm0, hu0⟩ := th
  refine okC F hc0 sc (fun vs H Q E h => spM.at h) ?_
  intro A outer s H vs Q E hr h
  refine ⟨_, (pss_cons (ps_set (i := 3) sc.nd rfl (.inr rfl) (pe_ix (r := rIx K.K) ix_seq (pe_ix (r := rIx K.K) ix_seq (pv 0) (pe_ix (r := rIx K.K) ix_seq (pv 1) pe_int (fun _ _ => rfl)) (fun _ _ => rfl)) pe_int (fun _ _ => rfl)))
     (pss_cons (ps_setLc (own := [("place", 8), ("sign", 9)]) (i := 4) rfl sc.nd rfl rfl (sw_true rfl rfl rfl (by decide +kernel)) (pi_enumS rfl m_enumerate (pv 2)) (blkOk_by (N := Nescaped_places) (sc := sc_escaped_places) (by decide +kernel)) (fun _ _ _ _ _ => (show PG _ _ (gTup K.K 2 _) from pg_tup rfl (pgs_cons (pg_name (i := 8) sc.nd rfl (by first | exact .inl rfl | exact .inr rfl)) (pgs_cons (pg_name (i := 9) sc.nd rfl (by first | exact .inl rfl | exact .inr rfl)) pgs_nil)))) (fun _ _ _ _ _ => (pts_one (pt_cmpR (r := rEqA K.K) (op_eqA (hu64 hr)) (pv 9) (pv 3) (nomark _)))) (fun _ _ _ _ _ => (pv 8)))
     (pss_cons (ps_set (i := 5) sc.nd rfl (.inl rfl) (pe_un un_neg pe_int))
     (pss_cons (PS_nox (ps_for PassesOwn.never rfl (show PI _ _ _ (iAny K.K _) from pi_any (show PE _ _ (tSortJ K.K _) from pe_sortJ (x := "pair") hr TB0 rfl rfl hm0 hu0 rfl rfl rfl rfl rfl (fun _ _ _ _ _ => rfl) rfl m_sorted (pe_c c_stretches hr (by decide) rfl pass0 (pa_cons (pv 0) (pa_cons (pv 1) (pa_cons (pv 2) pa_nil)))))) (show PG _ _ (gTup K.K 2 _) from pg_tup rfl (pgs_cons (pg_name (i := 6) sc.nd rfl (.inl rfl)) (pgs_cons (pg_name (i := 7) sc.nd rfl (.inl rfl)) pgs_nil)))
     (pss_one (ps_if (pt_cmpR op_gtA (pv 6) (pv 5) (nomark _))
     (pss_cons (ps_expr (show PE _ _ (tBM K.K "list" _ _ _) from pe_bm PySem.F.plainAttrs_list PySem.F.slot_list_append PySem.F.type_list_append mt_append (pv 4) (pa_cons (pv 7) pa_nil)))
     (pss_one (ps_set (i := 5) sc.nd rfl (.inl rfl) (pv 7))))
     pss_nil))))
     (pss_cons (ps_if (PW.pt (pw_and (pt_cmpR (r := rEqA K.K) (op_eqA (hu64 hr)) (pv 3) pe_str (nomark _)) (pw_and1 (pt_cmpR (r := rNeA K.K) (op_neA (hu64 hr)) (pv 4) (pe_lst pa_nil) (nomark _)))))
     (pss_one (ps_raiseX (K := K) (n := 26) rfl rfl (L2N.takes_of rfl rfl rfl rfl) (xa.f "NoWay" 26 (by decide)) rfl))
     pss_nil)
     (pss_one (ps_ret (pv 4)))))))), ?_⟩
  exact run_def (np := 3) (N := Nescaped_places) (g := g_escaped_places) (rn_seq (rn_asg (i := 3) rfl (EN.exv (en_op p_idx (EN.ep (en_op p_idx (lp_slot 0).ep (EN.ep (en_op p_idx (lp_slot 1).ep (EN.ep (en_int 1)))))) (EN.ep (en_int 0)))))
     (rn_seq (rn_asgM (i := 4) rfl (EN.em (en_comp (jip_enumS (lp_slot 2).ep) (jt_tup (n := 2) (jts_cons (jt_name (i := 8) (by decide)) (jts_cons (jt_name (i := 9) (by decide)) jts_nil))) (ept_test (EN.ep (en_op p_eq (lp_slot 9).ep (lp_slot 3).ep))) (lp_slot 8).ep)))
     (rn_seq (rn_asg (i := 5) rfl (EN.exv (en_un p_neg (EN.ep (en_int 1)))))
     (rn_seq (rn_for (ji_any (EM.ex (em_sortJ (EM.ex (em_call (calm := true) (.inl rfl) (exs_cons (EP.ex (lp_slot 0).ep) (exs_cons (EP.ex (lp_slot 1).ep) (exs_cons (EP.ex (lp_slot 2).ep) exs_nil)))))))) (jt_tup (n := 2) (jts_cons (jt_name (i := 6) rfl) (jts_cons (jt_name (i := 7) rfl) jts_nil)))
     (rn_if (EPT.et (ept_test (EN.ep (en_op p_gt (lp_slot 6).ep (lp_slot 5).ep))))
     (rn_seq (rn_app (lp_slot 4) (lp_slot 7).ep)
     (rn_asg (i := 5) rfl (EP.ex (lp_slot 7).ep)))
     rn_skip))
     (rn_seq (rn_if (EPT.et (ept_and (ept_test (EN.ep (en_op p_eq (lp_slot 3).ep (EN.ep (en_str ""))))) (ept_test (EN.ep (en_op p_ne (lp_slot 4).ep (EN.ep (en_lst pd_nil)))))))
     (rn_raise 26)
     rn_skip)
     (rn_ret (em_take 4))))))) (fun i e => by cases e) (spM.at h) (spM.imp ni_escaped_places h)
theorem ok_escaped_places (m_enumerate : mg "enumerate" = none) (m_sorted : mg "sorted" = none) (c_stretches : DefC P w K.K mg base CX0 "stretches" 1 ["book", "door", "text"] (spM K none F_stretches)) (xa : ExcA K mg) (hf : ∃ f fd, FunD K.K "escaped_places" "escaped_places" (defArgs s_escaped_places) (defBody s_escaped_places) (defScope s_escaped_places) [] [] f fd ∧ TabH mg base "escaped_places.<locals>.<lambda>" fd ∧ mg "escaped_places" = some (.ref f)) : DefC P w K.K mg base (L2N.CX P w) "escaped_places" 2 ["book", "door", "text"] (spM K none F_escaped_places) := by
  obtain ⟨f, fd, F, th, gf⟩ := hf
  exact ⟨f, fd, fn_escaped_places m_enumerate m_sorted c_stretches xa F th, gf, F.kp, (F.bindsN fun _ _ _ _ _ _ us hl => by rcases us with _ | ⟨a0, _ | ⟨a1, _ | ⟨a2, _ | ⟨a3, us⟩⟩⟩⟩ <;> first | (simp at hl; done) | rfl)⟩

abbrev s_put_in : Stmt := topS 14
abbrev Nput_in : List Str := ["book", "tongue", "number", "text", "door", "places", "found", "place", "sign"]
abbrev sc_put_in : Scope := defScope s_put_in
theorem fs_put_in : FnScope Nput_in ["book", "tongue", "number", "text"] sc_put_in := ⟨rfl, rfl, rfl, by decide +kernel, rfl, by decide +kernel, by decide +kernel⟩
theorem fn_put_in (c_door_of : DefC P w K.K mg base CX0 "door_of" 1 ["book", "tongue", "number"] (spM K none F_door_of)) (c_escaped_places : DefC P w K.K mg base (L2N.CX P w) "escaped_places" 2 ["book", "door", "text"] (spM K none F_escaped_places)) (m_enumerate : mg "enumerate" = none) {f : Addr} {fd : FuncData} (F : FunD K.K "put_in" "put_in" (defArgs s_put_in) (defBody s_put_in) (defScope s_put_in) [] [] f fd) : FnOk P w K.K mg base (L2N.CX P w) 3 f fd ["book", "tongue", "number", "text"] (spM K none F_put_in) := by
  have sc := fs_put_in
  refine F.ok sc (fun vs H Q E h => spM.at h) ?_
  intro cdv A outer s H vs Q E hr h
  refine ⟨_, (pss_cons (ps_set (i := 4) sc.nd rfl (.inl rfl) (pe_c c_door_of hr (by decide) rfl pass0 (pa_cons (pv 0) (pa_cons (pv 1) (pa_cons (pv 2) pa_nil)))))
     (pss_cons (ps_set (i := 5) sc.nd rfl (.inl rfl) (pe_c c_escaped_places hr (by decide) rfl (L2N.passes_call (L2N.takes_of rfl rfl rfl rfl) fun _ _ _ _ h => h) (pa_cons (pv 0) (pa_cons (pv 4) (pa_cons (pv 3) pa_nil)))))
     (pss_cons (ps_set (i := 6) sc.nd rfl (.inl rfl) (pe_lst pa_nil))
     (pss_cons (PS_nox (ps_for PassesOwn.never rfl (pi_enumS rfl m_enumerate (pv 3)) (show PG _ _ (gTup K.K 2 _) from pg_tup rfl (pgs_cons (pg_name (i := 7) sc.nd rfl (.inl rfl)) (pgs_cons (pg_name (i := 8) sc.nd rfl (.inl rfl)) pgs_nil)))
     (pss_cons (ps_if (pt_cmpR (r := rInA K.K) (op_inA (hu65 hr)) (pv 7) (pv 5) rfl)
     (pss_one (ps_expr (show PE _ _ (tBM K.K "list" _ _ _) from pe_bm PySem.F.plainAttrs_list PySem.F.slot_list_append PySem.F.type_list_append mt_append (pv 6) (pa_cons (pe_ix (r := rIx K.K) ix_seq (pe_ix (r := rIx K.K) ix_seq (pv 0) (pe_ix (r := rIx K.K) ix_seq (pv 4) pe_int (fun _ _ => rfl)) (fun _ _ => rfl)) pe_int (fun _ _ => rfl)) pa_nil))))
     pss_nil)
     (pss_one (ps_expr (show PE _ _ (tBM K.K "list" _ _ _) from pe_bm PySem.F.plainAttrs_list PySem.F.slot_list_append PySem.F.type_list_append mt_append (pv 6) (pa_cons (pv 8) pa_nil)))))))
     (pss_one (ps_ret (show PE _ _ (tM1 (rJoin K.K) _ _) from pe_join pe_str (pv 6)))))))), ?_⟩
  exact run_def (np := 4) (N := Nput_in) (g := g_put_in) (rn_seq (rn_asg (i := 4) rfl (EM.ex (em_call (calm := true) (.inl rfl) (exs_cons (EP.ex (lp_slot 0).ep) (exs_cons (EP.ex (lp_slot 1).ep) (exs_cons (EP.ex (lp_slot 2).ep) exs_nil))))))
     (rn_seq (rn_asg (i := 5) rfl (EM.ex (em_call (calm := false) (.inr rfl) (exs_cons (EP.ex (lp_slot 0).ep) (exs_cons (EP.ex (lp_slot 4).ep) (exs_cons (EP.ex (lp_slot 3).ep) exs_nil))))))
     (rn_seq (rn_asgM (i := 6) rfl (EN.em (en_lst pd_nil)))
     (rn_seq (rn_for (ji_enumS (EP.ex (lp_slot 3).ep)) (jt_tup (n := 2) (jts_cons (jt_name (i := 7) rfl) (jts_cons (jt_name (i := 8) rfl) jts_nil)))
     (rn_seq (rn_if (EPT.et (ept_test (EN.ep (en_op p_in (lp_slot 7).ep (lp_slot 5).ep))))
     (rn_app (lp_slot 6) (EN.ep (en_op p_idx (EN.ep (en_op p_idx (lp_slot 0).ep (EN.ep (en_op p_idx (lp_slot 4).ep (EN.ep (en_int 1)))))) (EN.ep (en_int 0)))))
     rn_skip)
     (rn_app (lp_slot 6) (lp_slot 8).ep)))
     (rn_ret (EN.em (en_m1 sm_join (EN.ep (en_str "")) (lp_slot 6).ep))))))) (fun i e => by cases e) (spM.at h) (spM.imp ni_put_in h)
theorem ok_put_in (c_door_of : DefC P w K.K mg base CX0 "door_of" 1 ["book", "tongue", "number"] (spM K none F_door_of)) (c_escaped_places : DefC P w K.K mg base (L2N.CX P w) "escaped_places" 2 ["book", "door", "text"] (spM K none F_escaped_places)) (m_enumerate : mg "enumerate" = none) (hf : ∃ f fd, FunD K.K "put_in" "put_in" (defArgs s_put_in) (defBody s_put_in) (defScope s_put_in) [] [] f fd ∧ mg "put_in" = some (.ref f)) : DefC P w K.K mg base (L2N.CX P w) "put_in" 3 ["book", "tongue", "number", "text"] (spM K none F_put_in) := by
  obtain ⟨f, fd, F, gf⟩ := hf
  exact ⟨f, fd, fn_put_in c_door_of c_escaped_places m_enumerate F, gf, F.kp, (F.bindsN fun _ _ _ _ _ _ us hl => by rcases us with _ | ⟨a0, _ | ⟨a1, _ | ⟨a2, _ | ⟨a3, _ | ⟨a4, us⟩⟩⟩⟩⟩ <;> first | (simp at hl; done) | rfl)⟩

abbrev s_fewest_escapes : Stmt := topS 15
abbrev Nfewest_escapes : List Str := ["book", "tongue", "number", "text"]
abbrev sc_fewest_escapes : Scope := defScope s_fewest_escapes
theorem fs_fewest_escapes : FnScope Nfewest_escapes ["book", "tongue", "number", "text"] sc_fewest_escapes := ⟨rfl, rfl, rfl, by decide +kernel, rfl, by decide +kernel, by decide +kernel⟩
theorem fn_fewest_escapes (m_len : mg "len" = none) (c_escaped_places : DefC P w K.K mg base (L2N.CX P w) "escaped_places" 2 ["book", "door", "text"] (spM K none F_escaped_places)) (c_door_of : DefC P w K.K mg base CX0 "door_of" 1 ["book", "tongue", "number"] (spM K none F_door_of)) {f : Addr} {fd : FuncData} (F : FunD K.K "fewest_escapes" "fewest_escapes" (defArgs s_fewest_escapes) (defBody s_fewest_escapes) (defScope s_fewest_escapes) [] [] f fd) : FnOk P w K.K mg base (L2N.CX P w) 3 f fd ["book", "tongue", "number", "text"] (spM K none F_fewest_escapes) := by
  have sc := fs_fewest_escapes
  refine F.ok sc (fun vs H Q E h => spM.at h) ?_
  intro cdv A outer s H vs Q E hr h
  refine ⟨_, (pss_one (ps_ret (pe_callB (r := rLenA K.K) call_len rfl m_len (by decide +kernel) (pa_cons (pe_c c_escaped_places hr (by decide) rfl (L2N.passes_call (L2N.takes_of rfl rfl rfl rfl) fun _ _ _ _ h => h) (pa_cons (pv 0) (pa_cons (pe_c c_door_of hr (by decide) rfl pass0 (pa_cons (pv 0) (pa_cons (pv 1) (pa_cons (pv 2) pa_nil)))) (pa_cons (pv 3) pa_nil)))) pa_nil)))), ?_⟩
  exact run_def (np := 4) (N := Nfewest_escapes) (g := g_fewest_escapes) (rn_ret (em_cb p_len (exs_cons (EM.ex (em_call (calm := false) (.inr rfl) (exs_cons (EP.ex (lp_slot 0).ep) (exs_cons (EM.ex (em_call (calm := true) (.inl rfl) (exs_cons (EP.ex (lp_slot 0).ep) (exs_cons (EP.ex (lp_slot 1).ep) (exs_cons (EP.ex (lp_slot 2).ep) exs_nil))))) (exs_cons (EP.ex (lp_slot 3).ep) exs_nil))))) exs_nil))) (fun i e => by cases e) (spM.at h) (spM.imp ni_fewest_escapes h)
theorem ok_fewest_escapes (m_len : mg "len" = none) (c_escaped_places : DefC P w K.K mg base (L2N.CX P w) "escaped_places" 2 ["book", "door", "text"] (spM K none F_escaped_places)) (c_door_of : DefC P w K.K mg base CX0 "door_of" 1 ["book", "tongue", "number"] (spM K none F_door_of)) (hf : ∃ f fd, FunD K.K "fewest_escapes" "fewest_escapes" (defArgs s_fewest_escapes) (defBody s_fewest_escapes) (defScope s_fewest_escapes) [] [] f fd ∧ mg "fewest_escapes" = some (.ref f)) : DefC P w K.K mg base (L2N.CX P w) "fewest_escapes" 3 ["book", "tongue", "number", "text"] (spM K none F_fewest_escapes) := by
  obtain ⟨f, fd, F, gf⟩ := hf
  exact ⟨f, fd, fn_fewest_escapes m_len c_escaped_places c_door_of F, gf, F.kp, (F.bindsN fun _ _ _ _ _ _ us hl => by rcases us with _ | ⟨a0, _ | ⟨a1, _ | ⟨a2, _ | ⟨a3, _ | ⟨a4, us⟩⟩⟩⟩⟩ <;> first | (simp at hl; done) | rfl)⟩

abbrev s_law_kinds : Stmt := topS 28
abbrev Nlaw_kinds : List Str := ["e", "some", "words", "k"]
abbrev sc_law_kinds : Scope := defScope s_law_kinds
theorem fs_law_kinds : FnScope Nlaw_kinds ["e"] sc_law_kinds := ⟨rfl, rfl, rfl, by decide +kernel, rfl, by decide +kernel, by decide +kernel⟩
theorem ok_law_kinds (m_isinstance : mg "isinstance" = none) (m_ValueError : mg "ValueError" = none) (m_range : mg "range" = none) (xa : ExcA K mg) (hf : ∃ f fd, FunD K.K "_law_kinds" "_law_kinds" (defArgs s_law_kinds) (defBody s_law_kinds) (defScope s_law_kinds) [] [] f fd ∧ mg "_law_kinds" = some (.ref f)) : DefE P w K mg base "_law_kinds" 1 := by
  obtain ⟨f, fd, F, gf⟩ := hf
  have sc := fs_law_kinds
  refine ⟨f, fd, fn_ofE F sc (fun a c vs H Q E h => by obtain ⟨rfl, _⟩ := h; rfl) (fun cdv A outer s H vs Q E p c hot hz hr h => ?_), gf, F.kp, (F.bindsN fun _ _ _ _ _ _ us hl => by rcases us with _ | ⟨a0, _ | ⟨a1, us⟩⟩ <;> first | (simp at hl; done) | rfl)⟩
  obtain ⟨rfl, F0, n, ss, hs0, htb, rfl, hks, hq⟩ := h
  obtain ⟨x, hx⟩ := kindS_in hks
  have hotc : L2H.HotC (L2H.cxH CX0 P w K.K mg base Nlaw_kinds "_law_kinds" sc_law_kinds f cdv A outer s H E p) := ⟨p, hot, List.mem_cons_self⟩
  have hd : ∃ vs, p.2.data = .fields vs := hot.2.imp fun _ h => h.1
  refine ⟨_, (pss_cons (ps_set (i := 1) sc.nd rfl (.inr rfl) (pe_lst (pa_cons (pe_callB (r := rIsE K.K (K.ca n) p.1) (call_isP (xa.c x n hx) List.mem_cons_self hz.zc hd) rfl m_isinstance (by decide +kernel) (pa_cons (pv 0) (pa_cons (pe_glob (v := .ref (K.ca 21)) rfl (xa.f "NoDoor" 21 (by decide)).g rfl) pa_nil))) (pa_cons (pe_callB (r := rIsE K.K (K.ca n) p.1) (call_isP (xa.c x n hx) List.mem_cons_self hz.zc hd) rfl m_isinstance (by decide +kernel) (pa_cons (pv 0) (pa_cons (pe_glob (v := .ref (K.ca 22)) rfl (xa.f "NoPlace" 22 (by decide)).g rfl) pa_nil))) (pa_cons (pe_callB (r := rIsE K.K (K.ca n) p.1) (call_isP (xa.c x n hx) List.mem_cons_self hz.zc hd) rfl m_isinstance (by decide +kernel) (pa_cons (pv 0) (pa_cons (pe_glob (v := .ref (K.ca 23)) rfl (xa.f "NoRow" 23 (by decide)).g rfl) pa_nil))) (pa_cons (pe_callB (r := rIsE K.K (K.ca n) p.1) (call_isP (xa.c x n hx) List.mem_cons_self hz.zc hd) rfl m_isinstance (by decide +kernel) (pa_cons (pv 0) (pa_cons (pe_glob (v := .ref (K.ca 24)) rfl (xa.f "NoText" 24 (by decide)).g rfl) pa_nil))) pa_nil))))))
 (pss_cons (ps_set (i := 1) sc.nd rfl (.inr rfl) (pe_op (r := rAddA K.K) op_addA (pv 1) (pe_lst (pa_cons (pe_callB (r := rIsE K.K (K.ca n) p.1) (call_isP (xa.c x n hx) List.mem_cons_self hz.zc hd) rfl m_isinstance (by decide +kernel) (pa_cons (pv 0) (pa_cons (pe_glob (v := .ref (K.ca 25)) rfl (xa.f "NoTongue" 25 (by decide)).g rfl) pa_nil))) (pa_cons (pe_callB (r := rIsE K.K (K.ca n) p.1) (call_isP (xa.c x n hx) List.mem_cons_self hz.zc hd) rfl m_isinstance (by decide +kernel) (pa_cons (pv 0) (pa_cons (pe_glob (v := .ref (K.ca 26)) rfl (xa.f "NoWay" 26 (by decide)).g rfl) pa_nil))) (pa_cons (pe_callB (r := rIsE K.K (K.ca n) p.1) (call_isP (xa.c x n hx) List.mem_cons_self hz.zc hd) rfl m_isinstance (by decide +kernel) (pa_cons (pv 0) (pa_cons (pe_glob (v := .ref (K.ca 27)) rfl (xa.f "Nothing" 27 (by decide)).g rfl) pa_nil))) (pa_cons (pe_callB (r := rIsE K.K (K.ca n) p.1) (call_isP (xa.c x n hx) List.mem_cons_self hz.zc hd) rfl m_isinstance (by decide +kernel) (pa_cons (pv 0) (pa_cons (pe_glob (v := .ref (K.ca 28)) rfl (xa.f "TooMany" 28 (by decide)).g rfl) pa_nil))) pa_nil)))))))
 (pss_cons (ps_expr (show PE _ _ (tBM K.K "list" _ _ _) from pe_bm PySem.F.plainAttrs_list PySem.F.slot_list_append PySem.F.type_list_append mt_append (pv 1) (pa_cons (pe_callB (r := rIsE K.K (K.ca n) p.1) (call_isP (xa.c x n hx) List.mem_cons_self hz.zc hd) rfl m_isinstance (by decide +kernel) (pa_cons (pv 0) (pa_cons (pe_bltn (v := .ty "ValueError") (u := .type "ValueError") rfl m_ValueError (by decide +kernel) rfl) pa_nil))) pa_nil)))
 (pss_cons (ps_set (i := 2) sc.nd rfl (.inr rfl) (pe_lst (pa_cons pe_str (pa_cons pe_str (pa_cons pe_str (pa_cons pe_str (pa_cons pe_str (pa_cons pe_str (pa_cons pe_str (pa_cons pe_str (pa_cons pe_str pa_nil)))))))))))
 (pss_one (ps_ret (show PE _ _ (tM1 (rJoin K.K) _ _) from pe_join pe_str (pe_lcH (own := [("k", 3)]) hotc sc.nd (L2H.pi_range1H rfl m_range (pa_cons pe_int pa_nil)) (blkOk_by (N := Nlaw_kinds) (sc := sc_law_kinds) (by decide +kernel)) (fun _ _ _ _ _ => (pg_name (i := 3) sc.nd rfl (by first | exact .inl rfl | exact .inr rfl))) (fun _ _ _ _ _ => (pts_one (pt_val (pe_ix (r := rIx K.K) ix_seq (pv 1) (pv 3) (fun _ _ => rfl))))) (fun _ _ _ _ _ => (pe_ix (r := rIx K.K) ix_seq (pv 2) (pv 3) (fun _ _ => rfl))))))))))), ?_⟩
  exact kinds_run xa hks hs0 htb (E := E) (rn_seq (rn_asg (i := 2) rfl (EN.exv (en_lst (pd_cons (EN.ep (en_str "NoDoor")) (pd_cons (EN.ep (en_str "NoPlace")) (pd_cons (EN.ep (en_str "NoRow")) (pd_cons (EN.ep (en_str "NoText")) (pd_cons (EN.ep (en_str "NoTongue")) (pd_cons (EN.ep (en_str "NoWay")) (pd_cons (EN.ep (en_str "Nothing")) (pd_cons (EN.ep (en_str "TooMany")) (pd_cons (EN.ep (en_str "+")) pd_nil))))))))))))
 (rn_ret (EN.em (en_m1 sm_join (EN.ep (en_str "")) (EN.ep (en_comp (jip_rng1 (pd_cons (EN.ep (en_int 9)) pd_nil)) (jt_name (i := 3) (by decide)) (ept_B (EN.ep (en_op p_idx (lp_slot 1).ep (lp_slot 3).ep))) (EN.ep (en_op p_idx (lp_slot 2).ep (lp_slot 3).ep)))))))) hq

abbrev s_law_tried : Stmt := topS 29
abbrev Nlaw_tried : List Str := ["way", "book", "place", "text", "kind", "told", "e"]
abbrev sc_law_tried : Scope := defScope s_law_tried
theorem fs_law_tried : FnScope Nlaw_tried ["way", "book", "place", "text"] sc_law_tried := ⟨rfl, rfl, rfl, by decide +kernel, rfl, by decide +kernel, by decide +kernel⟩
theorem fn_law_tried (xa : ExcA K mg) (c_law_kinds : DefE P w K mg base "_law_kinds" 1) (c_put_in : DefC P w K.K mg base (L2N.CX P w) "put_in" 3 ["book", "tongue", "number", "text"] (spM K none F_put_in)) (c_fewest_escapes : DefC P w K.K mg base (L2N.CX P w) "fewest_escapes" 3 ["book", "tongue", "number", "text"] (spM K none F_fewest_escapes)) {f : Addr} {fd : FuncData} (F : FunD K.K "_law_tried" "_law_tried" (defArgs s_law_tried) (defBody s_law_tried) (defScope s_law_tried) [] [] f fd) : FnOk P w K.K mg base CX0 4 f fd ["way", "book", "place", "text"] (spM K none F_law_tried) := by
  have sc := fs_law_tried
  refine F.ok sc (fun vs H Q E h => spM.at h) ?_
  intro cdv A outer s H vs Q E hr h
  refine ⟨_, PSs.nox (pss_cons (ps_set (i := 4) sc.nd rfl (.inl rfl) pe_str)
     (pss_cons (ps_set (i := 5) sc.nd rfl (.inl rfl) pe_non)
     (pss_cons (ps_tryK (K := K) (i := 6) (kk := 4) rfl xa c_law_kinds hr (by decide) rfl rfl rfl rfl sc.nd rfl rfl rfl (.inl rfl) (by decide) (by decide) (by decide) (fun W pn xe tk =>
     (pss_one (ps_if (pt_cmpR (r := rEqA K.K) (op_eqA (hu64 hr)) (pv 0) pe_int (nomark _))
     (pss_one (ps_set (i := 5) sc.nd rfl (.inl rfl) (pe_cW (E := WE W) c_put_in hr (by decide) rfl (fun σ => L2N.passAt tk σ) (pa_cons (pv 1) (pa_cons (pe_ix (r := rIx K.K) ix_seq (pv 2) pe_int (fun _ _ => rfl)) (pa_cons (pe_ix (r := rIx K.K) ix_seq (pv 2) pe_int (fun _ _ => rfl)) (pa_cons (pv 3) pa_nil)))))))
     (pss_one (ps_set (i := 5) sc.nd rfl (.inl rfl) (pe_cW (E := WE W) c_fewest_escapes hr (by decide) rfl (fun σ => L2N.passAt tk σ) (pa_cons (pv 1) (pa_cons (pe_ix (r := rIx K.K) ix_seq (pv 2) pe_int (fun _ _ => rfl)) (pa_cons (pe_ix (r := rIx K.K) ix_seq (pv 2) pe_int (fun _ _ => rfl)) (pa_cons (pv 3) pa_nil)))))))))) (fun h => ps_set (i := 4) sc.nd rfl (.inl rfl) h) (.inl rfl) (.inr rfl))
     (pss_one (ps_ret (pe_lst (pa_cons (pv 4) (pa_cons (pv 5) pa_nil)))))))), ?_⟩
  exact run_def (np := 4) (N := Nlaw_tried) (g := g_law_tried) (rn_seq (rn_asg (i := 4) rfl (EN.exv (en_str "")))
     (rn_seq (rn_asg (i := 5) rfl (EN.exv en_non))
     (rn_seq (rn_tryX xa rfl rfl (by decide) fun W =>
     (rw_if (ept_test (EN.ep (en_op p_eq (lp_slot 0).ep (EN.ep (en_int 0)))))
     (rw_asg (i := 5) rfl (exw_call fun _ => (exs_cons (EP.ex (lp_slot 1).ep) (exs_cons (EN.exv (en_op p_idx (lp_slot 2).ep (EN.ep (en_int 0)))) (exs_cons (EN.exv (en_op p_idx (lp_slot 2).ep (EN.ep (en_int 1)))) (exs_cons (EP.ex (lp_slot 3).ep) exs_nil))))))
     (rw_asg (i := 5) rfl (exw_call fun _ => (exs_cons (EP.ex (lp_slot 1).ep) (exs_cons (EN.exv (en_op p_idx (lp_slot 2).ep (EN.ep (en_int 0)))) (exs_cons (EN.exv (en_op p_idx (lp_slot 2).ep (EN.ep (en_int 1)))) (exs_cons (EP.ex (lp_slot 3).ep) exs_nil))))))))
     (rn_ret (EN.em (en_lst (pd_cons (lp_slot 4).ep (pd_cons (lp_slot 5).ep pd_nil)))))))) (fun i e => by cases e) (spM.at h) (spM.imp ni_law_tried h)
theorem ok_law_tried (xa : ExcA K mg) (c_law_kinds : DefE P w K mg base "_law_kinds" 1) (c_put_in : DefC P w K.K mg base (L2N.CX P w) "put_in" 3 ["book", "tongue", "number", "text"] (spM K none F_put_in)) (c_fewest_escapes : DefC P w K.K mg base (L2N.CX P w) "fewest_escapes" 3 ["book", "tongue", "number", "text"] (spM K none F_fewest_escapes)) (hf : ∃ f fd, FunD K.K "_law_tried" "_law_tried" (defArgs s_law_tried) (defBody s_law_tried) (defScope s_law_tried) [] [] f fd ∧ mg "_law_tried" = some (.ref f)) : DefC P w K.K mg base CX0 "_law_tried" 4 ["way", "book", "place", "text"] (spM K none F_law_tried) := by
  obtain ⟨f, fd, F, gf⟩ := hf
  exact ⟨f, fd, fn_law_tried xa c_law_kinds c_put_in c_fewest_escapes F, gf, F.kp, (F.bindsN fun _ _ _ _ _ _ us hl => by rcases us with _ | ⟨a0, _ | ⟨a1, _ | ⟨a2, _ | ⟨a3, _ | ⟨a4, us⟩⟩⟩⟩⟩ <;> first | (simp at hl; done) | rfl)⟩

abbrev s_law_unput : Stmt := topS 26
abbrev Nlaw_unput : List Str := ["book", "door", "written", "text", "escape", "marks", "whole", "found", "place", "escapes", "mark", "rest"]
abbrev sc_law_unput : Scope := defScope s_law_unput
theorem fs_law_unput : FnScope Nlaw_unput ["book", "door", "written", "text"] sc_law_unput := ⟨rfl, rfl, rfl, by decide +kernel, rfl, by decide +kernel, by decide +kernel⟩
theorem fn_law_unput (c_law_inside : DefC P w K.K mg base CX0 "_law_inside" 1 ["book", "door"] (spM K none F_law_inside)) (m_len : mg "len" = none) {f : Addr} {fd : FuncData} (F : FunD K.K "_law_unput" "_law_unput" (defArgs s_law_unput) (defBody s_law_unput) (defScope s_law_unput) [] [] f fd) : FnOk P w K.K mg base CX0 2 f fd ["book", "door", "written", "text"] (spM K none F_law_unput) := by
  have sc := fs_law_unput
  refine F.ok sc (fun vs H Q E h => spM.at h) ?_
  intro cdv A outer s H vs Q E hr h
  refine ⟨_, PSs.nox (pss_cons (ps_asg (pe_c c_law_inside hr (by decide) rfl pass0 (pa_cons (pv 0) (pa_cons (pv 1) pa_nil))) (show PG _ _ (gUnl K.K 2 _) from pg_unl rfl (pgs_cons (pg_name (i := 4) sc.nd rfl (.inl rfl)) (pgs_cons (pg_name (i := 5) sc.nd rfl (.inl rfl)) pgs_nil))))
     (pss_cons (ps_set (i := 6) sc.nd rfl (.inl rfl) (pe_op (r := rAddA K.K) op_addA (pv 2) (pe_ix (r := rIx K.K) ix_seq (pv 1) pe_int (fun _ _ => rfl))))
     (pss_cons (ps_set (i := 7) sc.nd rfl (.inl rfl) pe_str)
     (pss_cons (ps_set (i := 8) sc.nd rfl (.inl rfl) pe_int)
     (pss_cons (ps_set (i := 9) sc.nd rfl (.inl rfl) pe_int)
     (pss_cons (ps_while PassesOwn.never (pt_cmpR op_ltA (pv 8) (pe_callB (r := rLenA K.K) call_len rfl m_len (by decide +kernel) (pa_cons (pv 2) pa_nil)) (nomark _))
     (pss_one (ps_if (PW.pt (pw_and (pt_cmpR (r := rNeA K.K) (op_neA (hu64 hr)) (pv 4) pe_str (nomark _)) (pw_and1 (pt_cmpR (r := rEqA K.K) (op_eqA (hu64 hr)) (pe_ix (r := rIx K.K) ix_seq (pv 2) (pv 8) (fun _ _ => rfl)) (pv 4) (nomark _)))))
     (pss_cons (ps_if (pt_cmpR op_geA (pe_op (r := rAddA K.K) op_addA (pv 8) pe_int) (pe_callB (r := rLenA K.K) call_len rfl m_len (by decide +kernel) (pa_cons (pv 2) pa_nil)) (nomark _))
     (pss_one (ps_ret pe_non))
     pss_nil)
     (pss_cons (ps_set (i := 7) sc.nd rfl (.inl rfl) (pe_op (r := rAddA K.K) op_addA (pv 7) (pe_ix (r := rIx K.K) ix_seq (pv 2) (pe_op (r := rAddA K.K) op_addA (pv 8) pe_int) (fun _ _ => rfl))))
     (pss_cons (ps_set (i := 8) sc.nd rfl (.inl rfl) (pe_op (r := rAddA K.K) op_addA (pv 8) pe_int))
     (pss_one (ps_set (i := 9) sc.nd rfl (.inl rfl) (pe_op (r := rAddA K.K) op_addA (pv 9) pe_int))))))
     (pss_cons (ps_for PassesOwn.never rfl (show PI _ _ _ (iAny K.K _) from pi_any (pv 5)) (pg_name (i := 10) sc.nd rfl (.inl rfl))
     (pss_cons (ps_set (i := 11) sc.nd rfl (.inl rfl) (pe_slice (r := rSlX K.K) sl_any (pv 6) (po_some (pv 8)) (po_some (pe_op (r := rAddA K.K) op_addA (pv 8) (pe_callB (r := rLenA K.K) call_len rfl m_len (by decide +kernel) (pa_cons (pv 10) pa_nil))))))
     (pss_one (ps_if (pt_cmpR (r := rEqA K.K) (op_eqA (hu64 hr)) (pe_slice (r := rSlX K.K) sl_any (pv 10) po_none (po_some (pe_callB (r := rLenA K.K) call_len rfl m_len (by decide +kernel) (pa_cons (pv 11) pa_nil)))) (pv 11) (nomark _))
     (pss_one (ps_ret pe_non))
     pss_nil))))
     (pss_cons (ps_set (i := 7) sc.nd rfl (.inl rfl) (pe_op (r := rAddA K.K) op_addA (pv 7) (pe_ix (r := rIx K.K) ix_seq (pv 2) (pv 8) (fun _ _ => rfl))))
     (pss_one (ps_set (i := 8) sc.nd rfl (.inl rfl) (pe_op (r := rAddA K.K) op_addA (pv 8) pe_int))))))))
     (pss_cons (ps_if (pt_cmpR (r := rNeA K.K) (op_neA (hu64 hr)) (pv 7) (pv 3) (nomark _))
     (pss_one (ps_ret pe_non))
     pss_nil)
     (pss_one (ps_ret (pv 9)))))))))), ?_⟩
  exact run_def (np := 4) (N := Nlaw_unput) (g := g_law_unput) (rn_seq (rn_asgT (EM.ex (em_call (calm := true) (.inl rfl) (exs_cons (EP.ex (lp_slot 0).ep) (exs_cons (EP.ex (lp_slot 1).ep) exs_nil)))) (jt_unl (n := 2) (jts_cons (jt_name (i := 4) rfl) (jts_cons (jt_name (i := 5) rfl) jts_nil))))
     (rn_seq (rn_asg (i := 6) rfl (EN.exv (en_op p_add (lp_slot 2).ep (EN.ep (en_op p_idx (lp_slot 1).ep (EN.ep (en_int 2)))))))
     (rn_seq (rn_asg (i := 7) rfl (EN.exv (en_str "")))
     (rn_seq (rn_asg (i := 8) rfl (EN.exv (en_int 0)))
     (rn_seq (rn_asg (i := 9) rfl (EN.exv (en_int 0)))
     (rn_seq (rn_while (EPT.et (ept_test (EN.ep (en_op p_lt (lp_slot 8).ep (EN.ep (en_cb p_len (eps_cons (lp_slot 2).ep eps_nil)))))))
     (rn_if (EPT.et (ept_and (ept_test (EN.ep (en_op p_ne (lp_slot 4).ep (EN.ep (en_str ""))))) (ept_test (EN.ep (en_op p_eq (EN.ep (en_op p_idx (lp_slot 2).ep (lp_slot 8).ep)) (lp_slot 4).ep)))))
     (rn_seq (rn_if (EPT.et (ept_test (EN.ep (en_op p_ge (EN.ep (en_op p_add (lp_slot 8).ep (EN.ep (en_int 1)))) (EN.ep (en_cb p_len (eps_cons (lp_slot 2).ep eps_nil)))))))
     (rn_ret (EN.em en_non))
     rn_skip)
     (rn_seq (rn_asg (i := 7) rfl (EN.exv (en_op p_add (lp_slot 7).ep (EN.ep (en_op p_idx (lp_slot 2).ep (EN.ep (en_op p_add (lp_slot 8).ep (EN.ep (en_int 1)))))))))
     (rn_seq (rn_asg (i := 8) rfl (EN.exv (en_op p_add (lp_slot 8).ep (EN.ep (en_int 2)))))
     (rn_asg (i := 9) rfl (EN.exv (en_op p_add (lp_slot 9).ep (EN.ep (en_int 1))))))))
     (rn_seq (rn_for (ji_any (EP.ex (lp_slot 5).ep)) (jt_name (i := 10) rfl)
     (rn_seq (rn_asg (i := 11) rfl (EN.exv (en_sl p_sl (lp_slot 6).ep (eo_at (lp_slot 8).ep) (eo_at (EN.ep (en_op p_add (lp_slot 8).ep (EN.ep (en_cb p_len (eps_cons (lp_slot 10).ep eps_nil)))))))))
     (rn_if (EPT.et (ept_test (EN.ep (en_op p_eq (EN.ep (en_sl p_sl (lp_slot 10).ep eo_no (eo_at (EN.ep (en_cb p_len (eps_cons (lp_slot 11).ep eps_nil)))))) (lp_slot 11).ep))))
     (rn_ret (EN.em en_non))
     rn_skip)))
     (rn_seq (rn_asg (i := 7) rfl (EN.exv (en_op p_add (lp_slot 7).ep (EN.ep (en_op p_idx (lp_slot 2).ep (lp_slot 8).ep)))))
     (rn_asg (i := 8) rfl (EN.exv (en_op p_add (lp_slot 8).ep (EN.ep (en_int 1)))))))) 1000000)
     (rn_seq (rn_if (EPT.et (ept_test (EN.ep (en_op p_ne (lp_slot 7).ep (lp_slot 3).ep))))
     (rn_ret (EN.em en_non))
     rn_skip)
     (rn_ret (EX.em (EP.ex (lp_slot 9).ep)))))))))) (fun i e => by cases e) (spM.at h) (spM.imp ni_law_unput h)
theorem ok_law_unput (c_law_inside : DefC P w K.K mg base CX0 "_law_inside" 1 ["book", "door"] (spM K none F_law_inside)) (m_len : mg "len" = none) (hf : ∃ f fd, FunD K.K "_law_unput" "_law_unput" (defArgs s_law_unput) (defBody s_law_unput) (defScope s_law_unput) [] [] f fd ∧ mg "_law_unput" = some (.ref f)) : DefC P w K.K mg base CX0 "_law_unput" 2 ["book", "door", "written", "text"] (spM K none F_law_unput) := by
  obtain ⟨f, fd, F, gf⟩ := hf
  exact ⟨f, fd, fn_law_unput c_law_inside m_len F, gf, F.kp, (F.bindsN fun _ _ _ _ _ _ us hl => by rcases us with _ | ⟨a0, _ | ⟨a1, _ | ⟨a2, _ | ⟨a3, _ | ⟨a4, us⟩⟩⟩⟩⟩ <;> first | (simp at hl; done) | rfl)⟩

abbrev s_law : Stmt := topS 31
abbrev Nlaw : List Str := ["script", "k", "bag", "book", "place", "door", "great", "text", "due", "found", "turn", "way"]
abbrev sc_law : Scope := defScope s_law
theorem fs_law : FnScope Nlaw ["script"] sc_law := ⟨rfl, rfl, rfl, by decide +kernel, rfl, by decide +kernel, by decide +kernel⟩
theorem fn_law (m_range : mg "range" = none) (m_min : mg "min" = none) (m_len : mg "len" = none) (c_law_bag : DefC P w K.K mg base CX0 "_law_bag" 1 ["script", "k"] (spM K none F_law_bag)) (c_law_book : DefC P w K.K mg base CX0 "_law_book" 3 ["bag"] (spM K (some 0) F_law_book)) (c_law_door : DefC P w K.K mg base CX0 "_law_door" 2 ["bag", "book"] (spM K (some 0) F_law_door)) (m_int : mg "int" = none) (c_law_take : DefC P w K.K mg base CX0 "_law_take" 1 ["bag", "many"] (spM K (some 0) F_law_take)) (c_law_own_text : DefC P w K.K mg base CX0 "_law_own_text" 3 ["bag", "book", "door"] (spM K (some 0) F_law_own_text)) (c_law_fewest : DefC P w K.K mg base CX0 "_law_fewest" 2 ["book", "door", "text"] (spM K none F_law_fewest)) (c_law_tried : DefC P w K.K mg base CX0 "_law_tried" 4 ["way", "book", "place", "text"] (spM K none F_law_tried)) (m_isinstance : mg "isinstance" = none) (m_str : mg "str" = none) (c_law_unput : DefC P w K.K mg base CX0 "_law_unput" 2 ["book", "door", "written", "text"] (spM K none F_law_unput)) {f : Addr} {fd : FuncData} (F : FunD K.K "law" "law" (defArgs s_law) (defBody s_law) (defScope s_law) [] [] f fd) : FnOk P w K.K mg base CX0 5 f fd ["script"] (spM K none F_law) := by
  have sc := fs_law
  refine F.ok sc (fun vs H Q E h => spM.at h) ?_
  intro cdv A outer s H vs Q E hr h
  refine ⟨_, PSs.nox (pss_cons (ps_for PassesOwn.never rfl (pi_range1 rfl m_range (pa_cons (pe_op (r := rAddA K.K) op_addA (pe_callB (call_min2 rfl) rfl m_min (by decide +kernel) (pa_cons (pe_callB (r := rLenA K.K) call_len rfl m_len (by decide +kernel) (pa_cons (pv 0) pa_nil)) (pa_cons pe_int pa_nil))) pe_int) pa_nil)) (pg_name (i := 1) sc.nd rfl (.inl rfl))
     (pss_cons (ps_set (i := 2) sc.nd rfl (.inr rfl) (pe_c c_law_bag hr (by decide) rfl pass0 (pa_cons (pv 0) (pa_cons (pv 1) pa_nil))))
     (pss_cons (ps_set (i := 3) sc.nd rfl (.inr rfl) (pe_c c_law_book hr (by decide) rfl pass0 (pa_cons (pv 2) pa_nil)))
     (pss_cons (ps_set (i := 4) sc.nd rfl (.inr rfl) (pe_c c_law_door hr (by decide) rfl pass0 (pa_cons (pv 2) (pa_cons (pv 3) pa_nil))))
     (pss_one (ps_if (pt_cmpR op_notN (pv 4) pe_non (nomark _))
     (pss_cons (ps_set (i := 5) sc.nd rfl (.inr rfl) (pe_ix (r := rIx K.K) ix_seq (pe_ix (r := rIx K.K) ix_seq (pe_ix (r := rIx K.K) ix_seq (pv 3) (pe_ix (r := rIx K.K) ix_seq (pv 4) pe_int (fun _ _ => rfl)) (fun _ _ => rfl)) pe_int (fun _ _ => rfl)) (pe_ix (r := rIx K.K) ix_seq (pv 4) pe_int (fun _ _ => rfl)) (fun _ _ => rfl)))
     (pss_cons (ps_setLc (own := [("turn", 10)]) (i := 6) rfl sc.nd rfl rfl (sw_true rfl rfl rfl (by decide +kernel)) (pi_range1 rfl m_range (pa_cons (pe_op (r := rAddA K.K) op_addA pe_int (pe_op op_mulA pe_int (pe_callTy call_int1 rfl m_int (by decide +kernel) (pa_cons (pe_cmpR (r := rEqA K.K) (op_eqA (hu64 hr)) (pe_c c_law_take hr (by decide) rfl pass0 (pa_cons (pv 2) (pa_cons pe_int pa_nil))) pe_int (nomark _)) pa_nil)))) pa_nil)) (blkOk_by (N := Nlaw) (sc := sc_law) (by decide +kernel)) (fun _ _ _ _ _ => (pg_name (i := 10) sc.nd rfl (by first | exact .inl rfl | exact .inr rfl))) (fun _ _ _ _ _ => pts_nil) (fun _ _ _ _ _ => (pe_c c_law_own_text hr (by decide) rfl pass0 (pa_cons (pv 2) (pa_cons (pv 3) (pa_cons (pv 5) pa_nil))))))
     (pss_one (ps_for PassesOwn.never rfl (show PI _ _ _ (iAny K.K _) from pi_any (pe_lst (pa_cons pe_str (pa_cons (pe_c c_law_own_text hr (by decide) rfl pass0 (pa_cons (pv 2) (pa_cons (pv 3) (pa_cons (pv 5) pa_nil)))) (pa_cons (show PE _ _ (tM1 (rJoin K.K) _ _) from pe_join pe_str (pv 6)) pa_nil))))) (pg_name (i := 7) sc.nd rfl (.inr rfl))
     (pss_cons (ps_set (i := 8) sc.nd rfl (.inl rfl) (pe_c c_law_fewest hr (by decide) rfl pass0 (pa_cons (pv 3) (pa_cons (pv 5) (pa_cons (pv 7) pa_nil)))))
     (pss_cons (ps_setLc (own := [("way", 11)]) (i := 9) rfl sc.nd rfl rfl (sw_true rfl rfl rfl (by decide +kernel)) (pi_range1 rfl m_range (pa_cons pe_int pa_nil)) (blkOk_by (N := Nlaw) (sc := sc_law) (by decide +kernel)) (fun _ _ _ _ _ => (pg_name (i := 11) sc.nd rfl (by first | exact .inl rfl | exact .inr rfl))) (fun _ _ _ _ _ => pts_nil) (fun _ _ _ _ _ => (pe_c c_law_tried hr (by decide) rfl pass0 (pa_cons (pv 11) (pa_cons (pv 3) (pa_cons (pv 4) (pa_cons (pv 7) pa_nil)))))))
     (pss_one (ps_if (pt_cmpR op_isN (pv 8) pe_non (nomark _))
     (pss_one (ps_if (pt_cmpR (r := rNeA K.K) (op_neA (hu64 hr)) (pv 9) (pe_op op_mulA (pe_lst (pa_cons (pe_lst (pa_cons pe_str (pa_cons pe_non pa_nil))) pa_nil)) pe_int) (nomark _))
     (pss_one (ps_ret pe_bl))
     pss_nil))
     (pss_cons (ps_if (PW.pt (pw_or (pt_cmpR (r := rNeA K.K) (op_neA (hu64 hr)) (pe_ix (r := rIx K.K) ix_seq (pv 9) pe_int (fun _ _ => rfl)) (pe_lst (pa_cons pe_str (pa_cons (pv 8) pa_nil))) (nomark _)) (pw_or (pt_cmpR (r := rNeA K.K) (op_neA (hu64 hr)) (pe_ix (r := rIx K.K) ix_seq (pe_ix (r := rIx K.K) ix_seq (pv 9) pe_int (fun _ _ => rfl)) pe_int (fun _ _ => rfl)) pe_str (nomark _)) (pw_or1 (pt_not (pt_val (pe_callB (r := rIsi K.K) call_isi rfl m_isinstance (by decide +kernel) (pa_cons (pe_ix (r := rIx K.K) ix_seq (pe_ix (r := rIx K.K) ix_seq (pv 9) pe_int (fun _ _ => rfl)) pe_int (fun _ _ => rfl)) (pa_cons (pe_bltn (v := .ty "str") (u := .type "str") rfl m_str (by decide +kernel) rfl) pa_nil)))))))))
     (pss_one (ps_ret pe_bl))
     pss_nil)
     (pss_one (ps_if (pt_cmpR (r := rNeA K.K) (op_neA (hu64 hr)) (pe_c c_law_unput hr (by decide) rfl pass0 (pa_cons (pv 3) (pa_cons (pv 5) (pa_cons (pe_ix (r := rIx K.K) ix_seq (pe_ix (r := rIx K.K) ix_seq (pv 9) pe_int (fun _ _ => rfl)) pe_int (fun _ _ => rfl)) (pa_cons (pv 7) pa_nil))))) (pv 8) (nomark _))
     (pss_one (ps_ret pe_bl))
     pss_nil)))))))))))
     pss_nil))))))
     (pss_one (ps_ret pe_bl))), ?_⟩
  exact run_def (np := 1) (N := Nlaw) (g := g_law) (rn_seq (rn_for (ji_rng1 (exs_cons (EN.exv (en_op p_add (EN.ep (en_cb p_min2 (eps_cons (EN.ep (en_cb p_len (eps_cons (lp_slot 0).ep eps_nil))) (eps_cons (EN.ep (en_int 30)) eps_nil)))) (EN.ep (en_int 2)))) exs_nil)) (jt_name (i := 1) rfl)
     (rn_seq (rn_asgM (i := 2) rfl (em_call (calm := true) (.inl rfl) (exs_cons (EP.ex (lp_slot 0).ep) (exs_cons (EP.ex (lp_slot 1).ep) exs_nil))))
     (rn_seq (rn_asg (i := 3) rfl (EM.ex (em_callS (calm := true) (j := 0) (.inl rfl) (as_here (i := 2) exs_nil))))
     (rn_seq (rn_asg (i := 4) rfl (EM.ex (em_callS (calm := true) (j := 0) (.inl rfl) (as_here (i := 2) (exs_cons (EP.ex (lp_slot 3).ep) exs_nil)))))
     (rn_if (EPT.et (ept_test (EN.ep (en_op p_notN (lp_slot 4).ep (EN.ep en_non)))))
     (rn_seq (rn_asg (i := 5) rfl (EN.exv (en_op p_idx (EN.ep (en_op p_idx (EN.ep (en_op p_idx (lp_slot 3).ep (EN.ep (en_op p_idx (lp_slot 4).ep (EN.ep (en_int 0)))))) (EN.ep (en_int 1)))) (EN.ep (en_op p_idx (lp_slot 4).ep (EN.ep (en_int 1)))))))
     (rn_seq (rn_asg (i := 6) rfl (EM.ex (em_comp (ji_rng1 (exs_cons (EM.ex (em_op p_add (EN.exv (en_int 2)) (EM.ex (em_op p_mul (EN.exv (en_int 20)) (EM.ex (em_cb p_int (exs_cons (EM.ex (em_op p_eq (EM.ex (em_callS (calm := true) (j := 0) (.inl rfl) (as_here (i := 2) (exs_cons (EN.exv (en_int 6)) exs_nil)))) (EN.exv (en_int 0)))) exs_nil))))))) exs_nil)) (jt_name (i := 10) (by decide)) et_yes (EM.ex (em_callS (calm := true) (j := 0) (.inl rfl) (as_here (i := 2) (exs_cons (EP.ex (lp_slot 3).ep) (exs_cons (EP.ex (lp_slot 5).ep) exs_nil))))))))
     (rn_for (ji_any (EM.ex (em_lst (exs_cons (EN.exv (en_str "")) (exs_cons (EM.ex (em_callS (calm := true) (j := 0) (.inl rfl) (as_here (i := 2) (exs_cons (EP.ex (lp_slot 3).ep) (exs_cons (EP.ex (lp_slot 5).ep) exs_nil))))) (exs_cons (EN.exv (en_m1 sm_join (EN.ep (en_str "")) (lp_slot 6).ep)) exs_nil)))))) (jt_name (i := 7) rfl)
     (rn_seq (rn_asg (i := 8) rfl (EM.ex (em_call (calm := true) (.inl rfl) (exs_cons (EP.ex (lp_slot 3).ep) (exs_cons (EP.ex (lp_slot 5).ep) (exs_cons (EP.ex (lp_slot 7).ep) exs_nil))))))
     (rn_seq (rn_asg (i := 9) rfl (EM.ex (em_comp (ji_rng1 (exs_cons (EN.exv (en_int 2)) exs_nil)) (jt_name (i := 11) (by decide)) et_yes (EM.ex (em_call (calm := true) (.inl rfl) (exs_cons (EP.ex (lp_slot 11).ep) (exs_cons (EP.ex (lp_slot 3).ep) (exs_cons (EP.ex (lp_slot 4).ep) (exs_cons (EP.ex (lp_slot 7).ep) exs_nil)))))))))
     (rn_if (EPT.et (ept_test (EN.ep (en_op p_isN (lp_slot 8).ep (EN.ep en_non)))))
     (rn_if (et_test (EM.ex (em_op p_ne (EP.ex (lp_slot 9).ep) (EM.ex (em_op p_mul (EM.ex (em_lst (exs_cons (EN.exv (en_lst (pd_cons (EN.ep (en_str "NoWay+")) (pd_cons (EN.ep en_non) pd_nil)))) exs_nil))) (EN.exv (en_int 2)))))))
     (rn_ret (EN.em (en_bl false)))
     rn_skip)
     (rn_seq (rn_if (EPT.et (ept_or (ept_test (EN.ep (en_op p_ne (EN.ep (en_op p_idx (lp_slot 9).ep (EN.ep (en_int 1)))) (EN.ep (en_lst (pd_cons (EN.ep (en_str "")) (pd_cons (lp_slot 8).ep pd_nil))))))) (ept_or (ept_test (EN.ep (en_op p_ne (EN.ep (en_op p_idx (EN.ep (en_op p_idx (lp_slot 9).ep (EN.ep (en_int 0)))) (EN.ep (en_int 0)))) (EN.ep (en_str ""))))) (ept_not (ept_B (EN.ep (en_isi (n := "str") (EN.ep (en_op p_idx (EN.ep (en_op p_idx (lp_slot 9).ep (EN.ep (en_int 0)))) (EN.ep (en_int 1)))))))))))
     (rn_ret (EN.em (en_bl false)))
     rn_skip)
     (rn_if (et_test (EM.ex (em_op p_ne (EM.ex (em_call (calm := true) (.inl rfl) (exs_cons (EP.ex (lp_slot 3).ep) (exs_cons (EP.ex (lp_slot 5).ep) (exs_cons (EN.exv (en_op p_idx (EN.ep (en_op p_idx (lp_slot 9).ep (EN.ep (en_int 0)))) (EN.ep (en_int 1)))) (exs_cons (EP.ex (lp_slot 7).ep) exs_nil)))))) (EP.ex (lp_slot 8).ep))))
     (rn_ret (EN.em (en_bl false)))
     rn_skip))))))))
     rn_skip)))))
     (rn_ret (EN.em (en_bl true)))) (fun i e => by cases e) (spM.at h) (spM.imp ni_law h)

end
theorem math (ns : List Int) (h : ns.length ≤ 63) : F_law [.dat (.scr ns)] = some (.ok (.dat (.bl true)) none) := law_true ns
/-! the head: facts by names, the run -/
def dd_law_bag : He.DefD := ⟨("_law_bag", none), "_law_bag", "_law_bag", defArgs s_law_bag, defBody s_law_bag, defScope s_law_bag, [], []⟩
def dd_law_take : He.DefD := ⟨("_law_take", none), "_law_take", "_law_take", defArgs s_law_take, defBody s_law_take, defScope s_law_take, [], []⟩
def dd_law_mark : He.DefD := ⟨("_law_mark", none), "_law_mark", "_law_mark", defArgs s_law_mark, defBody s_law_mark, defScope s_law_mark, [], []⟩
def dd_law_fits_book : He.DefD := ⟨("_law_fits_book", none), "_law_fits_book", "_law_fits_book", defArgs s_law_fits_book, defBody s_law_fits_book, defScope s_law_fits_book, [], []⟩
def dd_law_book : He.DefD := ⟨("_law_book", none), "_law_book", "_law_book", defArgs s_law_book, defBody s_law_book, defScope s_law_book, [], []⟩
def dd_law_door : He.DefD := ⟨("_law_door", none), "_law_door", "_law_door", defArgs s_law_door, defBody s_law_door, defScope s_law_door, [], []⟩
def dd_law_inside : He.DefD := ⟨("_law_inside", none), "_law_inside", "_law_inside", defArgs s_law_inside, defBody s_law_inside, defScope s_law_inside, [], []⟩
def dd_law_marks : He.DefD := ⟨("_law_marks", none), "_law_marks", "_law_marks", defArgs s_law_marks, defBody s_law_marks, defScope s_law_marks, [], []⟩
def dd_law_text : He.DefD := ⟨("_law_text", none), "_law_text", "_law_text", defArgs s_law_text, defBody s_law_text, defScope s_law_text, [], []⟩
def dd_law_own_text : He.DefD := ⟨("_law_own_text", none), "_law_own_text", "_law_own_text", defArgs s_law_own_text, defBody s_law_own_text, defScope s_law_own_text, [], []⟩
def dd_law_fewest : He.DefD := ⟨("_law_fewest", none), "_law_fewest", "_law_fewest", defArgs s_law_fewest, defBody s_law_fewest, defScope s_law_fewest, [], []⟩
def dd_door_of : He.DefD := ⟨("door_of", none), "door_of", "door_of", defArgs s_door_of, defBody s_door_of, defScope s_door_of, [], []⟩
def dd_stretches : He.DefD := ⟨("stretches", none), "stretches", "stretches", defArgs s_stretches, defBody s_stretches, defScope s_stretches, [], []⟩
def dd_escaped_places : He.DefD := ⟨("escaped_places", none), "escaped_places", "escaped_places", defArgs s_escaped_places, defBody s_escaped_places, defScope s_escaped_places, [], []⟩
def dd_put_in : He.DefD := ⟨("put_in", none), "put_in", "put_in", defArgs s_put_in, defBody s_put_in, defScope s_put_in, [], []⟩
def dd_fewest_escapes : He.DefD := ⟨("fewest_escapes", none), "fewest_escapes", "fewest_escapes", defArgs s_fewest_escapes, defBody s_fewest_escapes, defScope s_fewest_escapes, [], []⟩
def dd_law_kinds : He.DefD := ⟨("_law_kinds", none), "_law_kinds", "_law_kinds", defArgs s_law_kinds, defBody s_law_kinds, defScope s_law_kinds, [], []⟩
def dd_law_tried : He.DefD := ⟨("_law_tried", none), "_law_tried", "_law_tried", defArgs s_law_tried, defBody s_law_tried, defScope s_law_tried, [], []⟩
def dd_law_unput : He.DefD := ⟨("_law_unput", none), "_law_unput", "_law_unput", defArgs s_law_unput, defBody s_law_unput, defScope s_law_unput, [], []⟩
def dd_law : He.DefD := ⟨("law", none), "law", "law", defArgs s_law, defBody s_law, defScope s_law, [], []⟩
def hfn0 : List He.DefD := [dd_law_bag, dd_law_take, dd_law_mark, dd_law_fits_book, dd_law_book, dd_law_door, dd_law_inside, dd_law_marks, dd_law_text, dd_law_own_text, dd_law_fewest, dd_door_of, dd_stretches, dd_escaped_places, dd_put_in, dd_fewest_escapes, dd_law_kinds, dd_law_tried, dd_law_unput, dd_law]
def hfn : List He.DefD := hfn0
def hfa0 : List He.Fa := [.glo "_law_bag", .free "len", .glo "_law_take", .glo "_law_mark", .free "range", .glo "_law_fits_book", .free "set", .glo "_law_book", .free "list", .free "tuple", .glo "_law_door", .glo "_law_inside", .glo "_law_marks", .glo "_law_text", .glo "_law_own_text", .glo "_law_fewest", .free "min", .glo "door_of", .glo "stretches", .glo "escaped_places", .free "enumerate", .free "sorted", .glo "put_in", .glo "fewest_escapes", .glo "_law_kinds"]
def hfa1 : List He.Fa := [.free "isinstance", .free "ValueError", .glo "_law_tried", .glo "_law_unput", .glo "law", .free "int", .free "str"]
def hfa : List He.Fa := hfa0 ++ (hfa1)
def hloose0 : List Str := ["NestError", "NoPlace", "TooMany", "Nothing", "NoDoor", "NoWay", "NoTongue", "NoText", "NoRow", "door_of", "stretches", "escaped_places", "put_in", "fewest_escapes", "_law_bag", "_law_take", "_law_mark", "_law_fits_book", "_law_book", "_law_marks", "_law_text", "_law_door", "_law_inside", "_law_unput", "_law_fewest"]
def hloose1 : List Str := ["_law_kinds", "_law_tried", "_law_own_text"]
def hloose : List Str := hloose0 ++ (hloose1)
abbrev hR : PySem.W.OpenRow := PySem.W.OpenLaw.row PySem.Challenge.rw_tonguenest_k14_whole_put_in_by_fewest_es
def hex (K : PySem.W.Frag) : Bool := excAll K
def htf : List He.Defn := [("escaped_places", none)]
abbrev hhk : PySem.W.Hook := He.hookX 4 hfa hfn [] htf hex
def hob (s : PySem.W.SharedT) : He.AlX := He.obsX 4 hfa hfn [] htf hex (HandSHeadRun.getT s)
theorem hob_eq (s : PySem.W.SharedT) : hob s = hhk.obs s.abs := He.obsX_eq (HandSHeadRun.getT_eq s)
abbrev hT (K : PySem.W.Frag) : TabC := ⟨[((He.cT K ("escaped_places", none)).2, "escaped_places.<locals>.<lambda>")]⟩
theorem hrun (w : World) : HandSHeadRun.RunEq hR (PySem.W.view hR.prog [31]) hhk hob 6000 hloose w := by
  intro os
  kernel_rfl
def hKX (K : PySem.W.Frag) : Kx := { K := K, ca := fun c => match c with | 20 => He.ga K "NestError" | 21 => He.ga K "NoDoor" | 22 => He.ga K "NoPlace" | 23 => He.ga K "NoRow" | 24 => He.ga K "NoText" | 25 => He.ga K "NoTongue" | 26 => He.ga K "NoWay" | 27 => He.ga K "Nothing" | 28 => He.ga K "TooMany" | _ => 0 }
theorem hcaE (K : PySem.W.Frag) : ∀ y ∈ exN, (hKX K).ca y.2 = He.ga K y.1 := fun y hy => by
  simp only [exN, List.mem_cons, List.not_mem_nil, or_false] at hy
  rcases hy with rfl | rfl | rfl | rfl | rfl | rfl | rfl | rfl <;> rfl
theorem hfacts {P : Program} {w : World} {K : PySem.W.Frag} {h : Heap} {mg : Str → Option Value} (X : K.In h) (G : h.Ns mainGlobals mg) (c : He.SaysD hfa hfn K) (cx : hex K = true) (base : Heap) (TB : ∀ p ∈ [He.cT K ("escaped_places", none)], LamX.TabB base mg p.1 p.2) : ∀ {f : Addr} {fd : FuncData} (F : FunD K "law" "law" (defArgs s_law) (defBody s_law) (defScope s_law) [] [] f fd), FnOk P w K mg base CX0 5 f fd ["script"] (@spM (hT K) (hKX K) none F_law) := by
  letI : TabC := hT K
  obtain ⟨fd_law_bag, FD_law_bag⟩ := c.def_ 0 (d := dd_law_bag) rfl
  have K_law_bag := ok_law_bag (P := P) (w := w) (K := hKX K) (mg := mg) (base := base) (He.free_ok X G (c.fact 1 (f := .free "len") rfl)) ⟨_, fd_law_bag, FD_law_bag, He.glo_ok X G (c.fact 0 (f := .glo "_law_bag") rfl)⟩
  obtain ⟨fd_law_take, FD_law_take⟩ := c.def_ 1 (d := dd_law_take) rfl
  have K_law_take := ok_law_take (P := P) (w := w) (K := hKX K) (mg := mg) (base := base) ⟨_, fd_law_take, FD_law_take, He.glo_ok X G (c.fact 2 (f := .glo "_law_take") rfl)⟩
  obtain ⟨fd_law_mark, FD_law_mark⟩ := c.def_ 2 (d := dd_law_mark) rfl
  have K_law_mark := ok_law_mark (P := P) (w := w) (K := hKX K) (mg := mg) (base := base) (He.free_ok X G (c.fact 4 (f := .free "range") rfl)) K_law_take (He.free_ok X G (c.fact 1 (f := .free "len") rfl)) ⟨_, fd_law_mark, FD_law_mark, He.glo_ok X G (c.fact 3 (f := .glo "_law_mark") rfl)⟩
  obtain ⟨fd_law_fits_book, FD_law_fits_book⟩ := c.def_ 3 (d := dd_law_fits_book) rfl
  have K_law_fits_book := ok_law_fits_book (P := P) (w := w) (K := hKX K) (mg := mg) (base := base) (He.free_ok X G (c.fact 1 (f := .free "len") rfl)) (He.free_ok X G (c.fact 6 (f := .free "set") rfl)) ⟨_, fd_law_fits_book, FD_law_fits_book, He.glo_ok X G (c.fact 5 (f := .glo "_law_fits_book") rfl)⟩
  obtain ⟨fd_law_book, FD_law_book⟩ := c.def_ 4 (d := dd_law_book) rfl
  have K_law_book := ok_law_book (P := P) (w := w) (K := hKX K) (mg := mg) (base := base) K_law_take (He.free_ok X G (c.fact 4 (f := .free "range") rfl)) K_law_mark (He.free_ok X G (c.fact 8 (f := .free "list") rfl)) K_law_fits_book (He.free_ok X G (c.fact 1 (f := .free "len") rfl)) (He.free_ok X G (c.fact 9 (f := .free "tuple") rfl)) ⟨_, fd_law_book, FD_law_book, He.glo_ok X G (c.fact 7 (f := .glo "_law_book") rfl)⟩
  obtain ⟨fd_law_door, FD_law_door⟩ := c.def_ 5 (d := dd_law_door) rfl
  have K_law_door := ok_law_door (P := P) (w := w) (K := hKX K) (mg := mg) (base := base) (He.free_ok X G (c.fact 4 (f := .free "range") rfl)) (He.free_ok X G (c.fact 1 (f := .free "len") rfl)) K_law_take ⟨_, fd_law_door, FD_law_door, He.glo_ok X G (c.fact 10 (f := .glo "_law_door") rfl)⟩
  obtain ⟨fd_law_inside, FD_law_inside⟩ := c.def_ 6 (d := dd_law_inside) rfl
  have K_law_inside := ok_law_inside (P := P) (w := w) (K := hKX K) (mg := mg) (base := base) ⟨_, fd_law_inside, FD_law_inside, He.glo_ok X G (c.fact 11 (f := .glo "_law_inside") rfl)⟩
  obtain ⟨fd_law_marks, FD_law_marks⟩ := c.def_ 7 (d := dd_law_marks) rfl
  have K_law_marks := ok_law_marks (P := P) (w := w) (K := hKX K) (mg := mg) (base := base) ⟨_, fd_law_marks, FD_law_marks, He.glo_ok X G (c.fact 12 (f := .glo "_law_marks") rfl)⟩
  obtain ⟨fd_law_text, FD_law_text⟩ := c.def_ 8 (d := dd_law_text) rfl
  have K_law_text := ok_law_text (P := P) (w := w) (K := hKX K) (mg := mg) (base := base) K_law_marks (He.free_ok X G (c.fact 4 (f := .free "range") rfl)) K_law_take (He.free_ok X G (c.fact 1 (f := .free "len") rfl)) ⟨_, fd_law_text, FD_law_text, He.glo_ok X G (c.fact 13 (f := .glo "_law_text") rfl)⟩
  obtain ⟨fd_law_own_text, FD_law_own_text⟩ := c.def_ 9 (d := dd_law_own_text) rfl
  have K_law_own_text := ok_law_own_text (P := P) (w := w) (K := hKX K) (mg := mg) (base := base) K_law_inside K_law_text (He.free_ok X G (c.fact 4 (f := .free "range") rfl)) K_law_take (He.free_ok X G (c.fact 1 (f := .free "len") rfl)) ⟨_, fd_law_own_text, FD_law_own_text, He.glo_ok X G (c.fact 14 (f := .glo "_law_own_text") rfl)⟩
  obtain ⟨fd_law_fewest, FD_law_fewest⟩ := c.def_ 10 (d := dd_law_fewest) rfl
  have K_law_fewest := ok_law_fewest (P := P) (w := w) (K := hKX K) (mg := mg) (base := base) K_law_inside (He.free_ok X G (c.fact 8 (f := .free "list") rfl)) (He.free_ok X G (c.fact 4 (f := .free "range") rfl)) (He.free_ok X G (c.fact 1 (f := .free "len") rfl)) (He.free_ok X G (c.fact 16 (f := .free "min") rfl)) ⟨_, fd_law_fewest, FD_law_fewest, He.glo_ok X G (c.fact 15 (f := .glo "_law_fewest") rfl)⟩
  obtain ⟨fd_door_of, FD_door_of⟩ := c.def_ 11 (d := dd_door_of) rfl
  have K_door_of := ok_door_of (P := P) (w := w) (K := hKX K) (mg := mg) (base := base) (He.free_ok X G (c.fact 1 (f := .free "len") rfl)) ⟨_, fd_door_of, FD_door_of, He.glo_ok X G (c.fact 17 (f := .glo "door_of") rfl)⟩
  obtain ⟨fd_stretches, FD_stretches⟩ := c.def_ 12 (d := dd_stretches) rfl
  have K_stretches := ok_stretches (P := P) (w := w) (K := hKX K) (mg := mg) (base := base) (He.free_ok X G (c.fact 4 (f := .free "range") rfl)) (He.free_ok X G (c.fact 1 (f := .free "len") rfl)) (He.free_ok X G (c.fact 16 (f := .free "min") rfl)) ⟨_, fd_stretches, FD_stretches, He.glo_ok X G (c.fact 18 (f := .glo "stretches") rfl)⟩
  obtain ⟨fd_escaped_places, FD_escaped_places⟩ := c.def_ 13 (d := dd_escaped_places) rfl
  have K_escaped_places := ok_escaped_places (P := P) (w := w) (K := hKX K) (mg := mg) (base := base) (He.free_ok X G (c.fact 20 (f := .free "enumerate") rfl)) (He.free_ok X G (c.fact 21 (f := .free "sorted") rfl)) K_stretches (excA_ok (K := hKX K) X G rfl (hcaE K) cx) ⟨_, fd_escaped_places, FD_escaped_places, ⟨_, _, code_at FD_escaped_places, TB _ (List.mem_singleton.mpr rfl), List.mem_singleton.mpr rfl, fun p hp _ => by rw [List.mem_singleton.mp hp]⟩, He.glo_ok X G (c.fact 19 (f := .glo "escaped_places") rfl)⟩
  obtain ⟨fd_put_in, FD_put_in⟩ := c.def_ 14 (d := dd_put_in) rfl
  have K_put_in := ok_put_in (P := P) (w := w) (K := hKX K) (mg := mg) (base := base) K_door_of K_escaped_places (He.free_ok X G (c.fact 20 (f := .free "enumerate") rfl)) ⟨_, fd_put_in, FD_put_in, He.glo_ok X G (c.fact 22 (f := .glo "put_in") rfl)⟩
  obtain ⟨fd_fewest_escapes, FD_fewest_escapes⟩ := c.def_ 15 (d := dd_fewest_escapes) rfl
  have K_fewest_escapes := ok_fewest_escapes (P := P) (w := w) (K := hKX K) (mg := mg) (base := base) (He.free_ok X G (c.fact 1 (f := .free "len") rfl)) K_escaped_places K_door_of ⟨_, fd_fewest_escapes, FD_fewest_escapes, He.glo_ok X G (c.fact 23 (f := .glo "fewest_escapes") rfl)⟩
  obtain ⟨fd_law_kinds, FD_law_kinds⟩ := c.def_ 16 (d := dd_law_kinds) rfl
  have K_law_kinds := ok_law_kinds (P := P) (w := w) (K := hKX K) (mg := mg) (base := base) (He.free_ok X G (c.fact 25 (f := .free "isinstance") rfl)) (He.free_ok X G (c.fact 26 (f := .free "ValueError") rfl)) (He.free_ok X G (c.fact 4 (f := .free "range") rfl)) (excA_ok (K := hKX K) X G rfl (hcaE K) cx) ⟨_, fd_law_kinds, FD_law_kinds, He.glo_ok X G (c.fact 24 (f := .glo "_law_kinds") rfl)⟩
  obtain ⟨fd_law_tried, FD_law_tried⟩ := c.def_ 17 (d := dd_law_tried) rfl
  have K_law_tried := ok_law_tried (P := P) (w := w) (K := hKX K) (mg := mg) (base := base) (excA_ok (K := hKX K) X G rfl (hcaE K) cx) K_law_kinds K_put_in K_fewest_escapes ⟨_, fd_law_tried, FD_law_tried, He.glo_ok X G (c.fact 27 (f := .glo "_law_tried") rfl)⟩
  obtain ⟨fd_law_unput, FD_law_unput⟩ := c.def_ 18 (d := dd_law_unput) rfl
  have K_law_unput := ok_law_unput (P := P) (w := w) (K := hKX K) (mg := mg) (base := base) K_law_inside (He.free_ok X G (c.fact 1 (f := .free "len") rfl)) ⟨_, fd_law_unput, FD_law_unput, He.glo_ok X G (c.fact 28 (f := .glo "_law_unput") rfl)⟩
  intro f fd F
  exact fn_law (P := P) (w := w) (K := hKX K) (mg := mg) (base := base) (He.free_ok X G (c.fact 4 (f := .free "range") rfl)) (He.free_ok X G (c.fact 16 (f := .free "min") rfl)) (He.free_ok X G (c.fact 1 (f := .free "len") rfl)) K_law_bag K_law_book K_law_door (He.free_ok X G (c.fact 30 (f := .free "int") rfl)) K_law_take K_law_own_text K_law_fewest K_law_tried (He.free_ok X G (c.fact 25 (f := .free "isinstance") rfl)) (He.free_ok X G (c.fact 31 (f := .free "str") rfl)) K_law_unput F
end Y
open PySem PySem.W PySem.Calls PyProof.Rows
theorem PySem.Challenge.cw_tonguenest_k14_whole_put_in_by_fewest_es_holds : PySem.Challenge.rw_tonguenest_k14_whole_put_in_by_fewest_es.Holds := by
  w_on; o_law
  refine HandSHeadRun.head_any (r := OpenLaw.row PySem.Challenge.rw_tonguenest_k14_whole_put_in_by_fewest_es) (q := view (OpenLaw.row PySem.Challenge.rw_tonguenest_k14_whole_put_in_by_fewest_es).prog [31]) (H := Y.hhk) (ob := Y.hob) (M := 6000) (loose := Y.hloose) (d := HandSHeadRun.topDef (OpenLaw.row PySem.Challenge.rw_tonguenest_k14_whole_put_in_by_fewest_es).prog 31) (kwd := []) Y.hob_eq
    (by kernel_rfl) (fun s => by kernel_rfl) Y.hrun (by kernel_rfl) (by kernel_rfl) (by kernel_rfl) (by rfl) (by first | assumption | decide +kernel) (by decide +kernel) ⟨rfl, rfl, rfl, rfl, rfl, by decide +kernel⟩ ?hw ?hc
  case hw => w_witness2
  case hc =>
    refine LamX.walk_ofTsE (l := PySem.Challenge.rw_tonguenest_k14_whole_put_in_by_fewest_es) (n := 63) (k := 5) (x := "script") (CX := fun _ => L2.CX0) rfl (by decide) (by kernel_rfl) ⟨rfl, by decide, by decide⟩ ?F (fun _ _ _ _ _ z => z)
    intro w mg fa h Y G hmg0
    obtain ⟨K, KX, c⟩ := Y
    have hmg : mg ("law" : PySem.Str) = some (.ref fa) := by
      have e : (HandSHeadRun.topDef (OpenLaw.row PySem.Challenge.rw_tonguenest_k14_whole_put_in_by_fewest_es).prog 31).name = ("law" : PySem.Str) := by kernel_rfl
      rw [← e]
      exact hmg0
    obtain ⟨fd, F⟩ := c.t.d.def_ 19 (d := Y.dd_law) rfl
    have hga := He.glo_ok KX G (c.t.d.fact 29 (f := .glo "law") rfl)
    have hfa : He.ga K "law" = fa := by
      have e := hmg.symm.trans hga
      cases e
      rfl
    have b := L2.FunD.bindsA (ps := ["script"]) F fun _ _ _ _ _ _ us hl => match us, hl with | [_], _ => rfl
    refine ⟨K, KX, fd, [He.cT K ("escaped_places", none)], @Y.spM (Y.hT K) (Y.hKX K) none Y.F_law, fun p hp => ?_, fun p hp => ?_, fun p hp => ?_, fun s v => b s [v] rfl, fun H a ns hl _ hT hS => Y.sp_tab (hT _ (List.mem_singleton.mpr rfl)) hS (Y.math ns hl), fun base hB hN TB => ?_⟩
    · rw [List.mem_singleton.mp hp]
      exact c.empty ("escaped_places", none) (List.mem_singleton.mpr rfl)
    · rw [List.mem_singleton.mp hp]
      exact c.out ("escaped_places", none) (List.mem_singleton.mpr rfl)
    · rw [List.mem_singleton.mp hp]
      exact PySem.W.codeHd_of_K KX (c.hd ("escaped_places", none) (List.mem_singleton.mpr rfl))
    · subst hfa
      exact Y.hfacts KX G c.t.d c.more base TB F

